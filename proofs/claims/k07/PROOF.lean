import PyProof.Rows.All
import Wide.All
import OpenK.AllK
import Wide.FinOn
import HandS.ForMost
import HandS.ForExc
import HandS.CallSlots
import HandS.Deep
import HandS.Lambda
import KE.KeyNested
import HandS.Wide
import HandS.TupAny
import HandS.TupMul
import HandS.Style
import HandS.IsInst
import HandS.Conv
import HandS.Zip
import HandS.ExcIs
import HandS.EndTab
import HandS.Iter
import HandS.TupSets
import KE.KDictPairs
import HandS.SortInts
import HandS.SetFor
import HandS.Strs
import HandS.SortKw
import HandS.More
import KE.DatumOrd
import PyProof.MaxThree
import KE.GoesEnum
import KE.GoesMore
import KE.KDictZip
import KE.KItemsList
import HandS.Flow
import KE.GoesComp
import KE.KOwnCellsLaws
import HandS.Text
import KE.SortData
import KE.KDictSum
import KE.DataMinMax
import PySem.Challenge.RW_nearorders_k07_whole_nearest_rows
set_option Elab.async false
set_option linter.all false
set_option maxRecDepth 100000
set_option maxHeartbeats 4000000
namespace Fx
open PySem PySem.Spec PyProof.Rows L2
abbrev PV := PyData
def kP : Key → PV
  | .inl i => .int i
  | .inr x => .str x
/-- a tuple that stands still, its object without a dict -/
def TupAt (K : PySem.W.Frag) (H : Hp) (a : Addr) (xs : List V) : Prop :=
  (∃ o : Obj, H a = some (.frz o (.tup xs)) ∧ o.dict = none) ∨
    ∃ (o : Obj) (its : Array Value) (n : Nat), K.lookup a = some o ∧ o.cls = .type "tuple" ∧ o.dict = none ∧ o.data = .seq its n ∧ its.size ≤ sizeLine ∧ Vals xs its.toList
theorem TupAt.sq {K : PySem.W.Frag} {H : Hp} {a : Addr} {xs : List V} : TupAt K H a xs → SqT K H a xs
  | .inl ⟨o, h, _⟩ => .inl (.inr ⟨o, h⟩)
  | .inr ⟨o, its, n, h1, h2, _, h4, h5, h6⟩ => .inr ⟨o, its, n, h1, h2, h4, h5, h6⟩
theorem TupAt.mono {K : PySem.W.Frag} {H H' : Hp} {a : Addr} {xs : List V} (e : Same H H') : TupAt K H a xs → TupAt K H' a xs
  | .inl ⟨o, h, d⟩ => .inl ⟨o, e _ _ h, d⟩
  | .inr h => .inr h
mutual
inductive Rep (K : PySem.W.Frag) (H : Hp) : V → PV → Prop
  | non : Rep K H .non .none
  | bl (b : Bool) : Rep K H (.bl b) (.bool b)
  | int (i : Int) : Rep K H (.int i) (.int i)
  | str (x : Str) : Rep K H (.str x) (.str x)
  | lst {a : Addr} {xs : List V} {ds : List PV} : H a = some (.lst xs) → RepA K H xs ds → Rep K H (.ref a) (.list ds)
  | scr {a : Addr} {xs : List V} {ds : List PV} : SqL K H a xs → RepA K H xs ds → Rep K H (.ref a) (.dict [(.none, .list ds)])
  | tup {a : Addr} {xs : List V} {ds : List PV} : TupAt K H a xs → RepA K H xs ds → Rep K H (.ref a) (.tuple ds)
  | dK {a : Addr} {ks : List (Key × V)} {ds : List (PV × PV)} : H a = some (.dK ks) → RepK K H ks ds → Rep K H (.ref a) (.dict ds)
inductive RepA (K : PySem.W.Frag) (H : Hp) : List V → List PV → Prop
  | nil : RepA K H [] []
  | cons {v : V} {vs : List V} {d : PV} {ds : List PV} : Rep K H v d → RepA K H vs ds → RepA K H (v :: vs) (d :: ds)
inductive RepK (K : PySem.W.Frag) (H : Hp) : List (Key × V) → List (PV × PV) → Prop
  | nil : RepK K H [] []
  | cons {k : Key} {v : V} {vs : List (Key × V)} {d : PV} {ds : List (PV × PV)} : Rep K H v d → RepK K H vs ds → RepK K H ((k, v) :: vs) ((kP k, d) :: ds)
end
theorem same_sqL {K : PySem.W.Frag} {H H' : Hp} {a : Addr} {xs : List V} (e : Same H H') (h : SqL K H a xs) : SqL K H' a xs := e.seq h
theorem same_sqT {K : PySem.W.Frag} {H H' : Hp} {a : Addr} {xs : List V} (e : Same H H') (h : SqT K H a xs) : SqT K H' a xs := by
  rcases h with (h | ⟨o, h⟩) | h
  · exact .inl (.inl (e _ _ h))
  · exact .inl (.inr ⟨o, e _ _ h⟩)
  · exact .inr h
section
variable {K : PySem.W.Frag} {H H' : Hp}
mutual
theorem Rep.mono (e : Same H H') : ∀ {v : V} {d : PV}, Rep K H v d → Rep K H' v d
  | _, _, .non => .non
  | _, _, .bl b => .bl b
  | _, _, .int i => .int i
  | _, _, .str x => .str x
  | _, _, .lst h r => .lst (e _ _ h) (RepA.mono e r)
  | _, _, .scr h r => .scr (same_sqL e h) (RepA.mono e r)
  | _, _, .tup h r => .tup (h.mono e) (RepA.mono e r)
  | _, _, .dK h r => .dK (e _ _ h) (RepK.mono e r)
theorem RepA.mono (e : Same H H') : ∀ {v : List V} {d : List PV}, RepA K H v d → RepA K H' v d
  | _, _, .nil => .nil
  | _, _, .cons h r => .cons (Rep.mono e h) (RepA.mono e r)
theorem RepK.mono (e : Same H H') : ∀ {v : List (Key × V)} {d : List (PV × PV)}, RepK K H v d → RepK K H' v d
  | _, _, .nil => .nil
  | _, _, .cons h r => .cons (Rep.mono e h) (RepK.mono e r)
end
theorem RepK.key : ∀ {v : List (Key × V)} {d : List (PV × PV)}, RepK K H v d → ∀ p ∈ d, ∃ k, p.1 = kP k
  | _, _, .nil, p, h => nomatch h
  | _, _, .cons (k := k) _ r, p, h => by
    rcases List.mem_cons.mp h with e | h
    · exact ⟨k, by rw [e]⟩
    · exact RepK.key r p h
theorem RepA.length : ∀ {v : List V} {d : List PV}, RepA K H v d → v.length = d.length
  | _, _, .nil => rfl
  | _, _, .cons _ r => by rw [List.length_cons, List.length_cons, RepA.length r]
theorem RepA.append : ∀ {v w : List V} {d e : List PV}, RepA K H v d → RepA K H w e → RepA K H (v ++ w) (d ++ e)
  | _, _, _, _, .nil, q => q
  | _, _, _, _, .cons h r, q => .cons h (RepA.append r q)
theorem RepA.get : ∀ {v : List V} {d : List PV} {i : Nat} {p : PV}, RepA K H v d → d[i]? = some p → ∃ x, v[i]? = some x ∧ Rep K H x p
  | _, _, _, _, .nil, e => by simp at e
  | _, _, 0, _, .cons h r, e => by simp at e; subst e; exact ⟨_, rfl, h⟩
  | _, _, i + 1, _, .cons h r, e => by
    obtain ⟨x, e1, e2⟩ := RepA.get (i := i) r (by simpa using e)
    exact ⟨x, by simpa using e1, e2⟩
theorem RepA.take : ∀ {v : List V} {d : List PV} (n : Nat), RepA K H v d → RepA K H (v.take n) (d.take n)
  | _, _, 0, _ => .nil
  | _, _, _ + 1, .nil => .nil
  | _, _, n + 1, .cons h r => .cons h (RepA.take n r)
theorem RepA.drop : ∀ {v : List V} {d : List PV} (n : Nat), RepA K H v d → RepA K H (v.drop n) (d.drop n)
  | _, _, 0, r => r
  | _, _, _ + 1, .nil => .nil
  | _, _, n + 1, .cons h r => RepA.drop n r
theorem RepA.set {x : V} {p : PV} (q : Rep K H x p) : ∀ {v : List V} {d : List PV} (n : Nat), RepA K H v d → RepA K H (v.set n x) (d.set n p)
  | _, _, _, .nil => .nil
  | _, _, 0, .cons h r => .cons q r
  | _, _, n + 1, .cons h r => .cons h (RepA.set q n r)
theorem RepA.reverse : ∀ {v : List V} {d : List PV}, RepA K H v d → RepA K H v.reverse d.reverse
  | _, _, .nil => .nil
  | _, _, .cons h r => by
    rw [List.reverse_cons, List.reverse_cons]
    exact (RepA.reverse r).append (.cons h .nil)
end
/-- what a slot holds: a value shared and never changed from now on; an owned object (list, dict) that only the slot leads to;
the frame's lambda of that number; an owned list of such lambdas -/
inductive Sv where
  | s (v : PV) | o (v : PV) | c (i : Nat) | cl (is : List Nat) | d (ds : List (List Int × PV)) | q (v : PV) | cs (is : List Nat) | t (ds : List (PV × PV)) | k (j : Option Nat) (o : PV) (p : List PV)
abbrev En := List (Option Sv)
inductive OwnAt (K : PySem.W.Frag) (F H : Hp) (a : Addr) : PV → Prop
  | lst {vs : List V} {ds : List PV} : H a = some (.lst vs) → RepA K F vs ds → OwnAt K F H a (.list ds)
  | dK {ks : List (Key × V)} {ds : List (PV × PV)} : H a = some (.dK ks) → RepK K F ks ds → OwnAt K F H a (.dict ds)
/-- a desk at a, its dict at d, its list at l: an order, and what it was -/
structure DeskAt (K : PySem.W.Frag) (F H : Hp) (a d l : Addr) (o : PV) (ps : List PV) : Prop where
  ex : ∃ (D : Addr) (vo : V) (vs : List V), PySem.W.nsIn K mainGlobals "Desk" = some (some (.ref D)) ∧ H a = some (.ins D d [("order", vo), ("past", .ref l)]) ∧ H d = some (.own a) ∧ H l = some (.lst vs) ∧ Rep K F vo o ∧ RepA K F vs ps
theorem DeskAt.mono {K : PySem.W.Frag} {F F' H H' : Hp} {a d l : Addr} {o : PV} {ps : List PV} (e : Same F F') (h : ∀ b ∈ [a, d, l], H' b = H b) : DeskAt K F H a d l o ps → DeskAt K F' H' a d l o ps
  | ⟨D, vo, vs, h1, h2, h3, h4, h5, h6⟩ => ⟨D, vo, vs, h1, (h a (by simp)).trans h2, (h d (by simp)).trans h3, (h l (by simp)).trans h4, h5.mono e, h6.mono e⟩
theorem DeskAt.plain {K : PySem.W.Frag} {F H : Hp} {a d l : Addr} {o : PV} {ps : List PV} : DeskAt K F H a d l o ps → ∀ b ∈ [a, d, l], ∃ u, H b = some u ∧ (∀ ps, u ≠ .tbl ps) ∧ ∀ φ, u ≠ .ext φ
  | ⟨D, vo, vs, h1, h2, h3, h4, h5, h6⟩, b, hb => by
    simp only [List.mem_cons, List.not_mem_nil, or_false] at hb
    rcases hb with rfl | rfl | rfl
    · exact ⟨_, h2, (fun _ z => nomatch z), (fun _ z => nomatch z)⟩
    · exact ⟨_, h3, (fun _ z => nomatch z), (fun _ z => nomatch z)⟩
    · exact ⟨_, h4, (fun _ z => nomatch z), (fun _ z => nomatch z)⟩
def dkP (o : PV) (p : List PV) : PV := .tuple [o, .list p]
theorem OwnAt.mono {K : PySem.W.Frag} {F F' H H' : Hp} {a : Addr} {p : PV} (e : Same F F') (h : H' a = H a) : OwnAt K F H a p → OwnAt K F' H' a p
  | .lst q r => .lst (h.trans q) (r.mono e)
  | .dK q r => .dK (h.trans q) (r.mono e)
theorem OwnAt.there {K : PySem.W.Frag} {F H : Hp} {a : Addr} {p : PV} : OwnAt K F H a p → ∃ o, H a = some o
  | .lst q _ => ⟨_, q⟩
  | .dK q _ => ⟨_, q⟩
theorem OwnAt.plain {K : PySem.W.Frag} {F H : Hp} {a : Addr} {p : PV} : OwnAt K F H a p → ∃ o, H a = some o ∧ ∀ ps, o ≠ .tbl ps
  | .lst q _ => ⟨_, q, fun _ z => nomatch z⟩
  | .dK q _ => ⟨_, q, fun _ z => nomatch z⟩
theorem OwnAt.notExt {K : PySem.W.Frag} {F H : Hp} {a : Addr} {p : PV} (q : OwnAt K F H a p) (φ : Heap → Prop) : H a ≠ some (.ext φ) := fun h => by
  cases q with
  | lst z _ => rw [h] at z; cases z
  | dK z _ => rw [h] at z; cases z
theorem OwnAt.rep {K : PySem.W.Frag} {F H : Hp} {a : Addr} {p : PV} (e : Same F H) : OwnAt K F H a p → Rep K H (.ref a) p
  | .lst q r => .lst q (r.mono e)
  | .dK q r => .dK q (r.mono e)
theorem same_put {F : Hp} {a : Addr} (h : F a = none) (o : HO) : Same F (upd F a o) := fun b u q => by rw [upd_ne (ne_of_none q h)]; exact q
/-- frozen from now on -/
theorem OwnAt.freeze {K : PySem.W.Frag} {F H : Hp} {a : Addr} {p : PV} (n : F a = none) : OwnAt K F H a p → ∃ o, H a = some o ∧ Rep K (upd F a o) (.ref a) p ∧ ∀ ps, o ≠ .tbl ps
  | .lst q r => ⟨_, q, .lst upd_same (r.mono (same_put n _)), fun _ z => nomatch z⟩
  | .dK q r => ⟨_, q, .dK upd_same (r.mono (same_put n _)), fun _ z => nomatch z⟩
/-- read for the moment: shared, or an owned object (its items are shared) -/
inductive RepR (K : PySem.W.Frag) (F H : Hp) : V → PV → Prop
  | s {v : V} {p : PV} : Rep K F v p → RepR K F H v p
  | o {a : Addr} {p : PV} : OwnAt K F H a p → RepR K F H (.ref a) p
theorem RepR.rep {K : PySem.W.Frag} {F H : Hp} {v : V} {p : PV} (e : Same F H) : RepR K F H v p → Rep K H v p
  | .s r => r.mono e
  | .o r => r.rep e
theorem RepR.list {K : PySem.W.Frag} {F H : Hp} {v : V} {ds : List PV} (e : Same F H) (h : RepR K F H v (.list ds)) : ∃ a vs, v = .ref a ∧ H a = some (.lst vs) ∧ RepA K F vs ds := by
  cases h with
  | s r => cases r with | lst q t => exact ⟨_, _, rfl, e _ _ q, t⟩
  | o r => cases r with | lst q t => exact ⟨_, _, rfl, q, t⟩
theorem RepR.tuple {K : PySem.W.Frag} {F H : Hp} {v : V} {ds : List PV} (e : Same F H) (h : RepR K F H v (.tuple ds)) : ∃ a vs, v = .ref a ∧ TupAt K H a vs ∧ RepA K F vs ds := by
  cases h with
  | s r => cases r with | tup q t => exact ⟨_, _, rfl, q.mono e, t⟩
  | o r => cases r
theorem RepR.intE {K : PySem.W.Frag} {F H : Hp} {v : V} {i : Int} (h : RepR K F H v (.int i)) : v = .int i := by
  cases h with
  | s r => cases r with | int => rfl
  | o r => cases r
theorem RepR.strE {K : PySem.W.Frag} {F H : Hp} {v : V} {i : Str} (h : RepR K F H v (.str i)) : v = .str i := by
  cases h with
  | s r => cases r with | str => rfl
  | o r => cases r
inductive RepRA (K : PySem.W.Frag) (F H : Hp) : List V → List PV → Prop
  | nil : RepRA K F H [] []
  | cons {v : V} {vs : List V} {d : PV} {ds : List PV} : RepR K F H v d → RepRA K F H vs ds → RepRA K F H (v :: vs) (d :: ds)
/-- kinds of a value: shared, read for the moment, owned by nobody yet -/
inductive Kd where
  | sh | rd | fr
  deriving DecidableEq
/-- what a def's walk keeps in mind: the addresses of the parameters that are owned by the caller, the classes' values, the frame's lambdas, the wish of exceptions, the kind of what is told -/
structure Cf where
  ioS : List Nat
  ioA : List (List Addr)
  xc : Nat → Value
  clo : Nat → Addr → HO
  lam : Nat → Addr → Addr → HO
  lq : Str
  W : WX
  kr : Kd
  T : List (Addr × Str)
  dk : Nat → List Addr
abbrev Cf.io (C : Cf) : List (Nat × List Addr) := C.ioS.zip C.ioA
abbrev Cf.nox (C : Cf) : Cf := { C with W := fun _ _ _ _ => False }
/-- the addresses that a slot owns -/
abbrev Own := Nat → Addr → Prop
def hashT (k : List Int) : Int := reduceHash (Builtin.Tuple.tupleHashOf (k.map hashInt))
def entT (x : List Int × Addr × Value) : DictEntry := ⟨hashT x.1, .ref x.2.1, x.2.2⟩
structure DT0 (h : Heap) (a : Addr) (L : List (List Int × Addr × Value)) : Prop where
  ex : ∃ (o : Obj) (es : Array DictEntry) (ep : Nat), h.get? a = some o ∧ o.ExactDict ∧ o.data = .dict es ep ∧ es.toList = L.map entT
  nd : (L.map (·.1)).Nodup
  ns : (a == sysModules) = false
  sz : L.length ≤ sizeLine
def DTO (a : Addr) (L : List (List Int × Addr × Value)) : HO := .ext fun h => DT0 h a L
inductive RepD (K : PySem.W.Frag) (F : Hp) : List (List Int × Addr × Value) → List (List Int × PV) → Prop
  | nil : RepD K F [] []
  | cons {k : List Int} {b : Addr} {u : Value} {v : V} {d : PV} {L : List (List Int × Addr × Value)} {ds : List (List Int × PV)} : TupAt K F b (k.map V.int) → RelV v u → Rep K F v d → RepD K F L ds → RepD K F ((k, b, u) :: L) ((k, d) :: ds)
theorem RepD.mono {K : PySem.W.Frag} {F F' : Hp} (e : Same F F') : ∀ {L : List (List Int × Addr × Value)} {ds : List (List Int × PV)}, RepD K F L ds → RepD K F' L ds
  | _, _, .nil => .nil
  | _, _, .cons a b c r => .cons (a.mono e) b (c.mono e) (r.mono e)
mutual
def hashN : NestedKey → Int
  | .num i => hashInt i
  | .tup ks => reduceHash (Builtin.Tuple.tupleHashOf (hashNs ks))
  | _ => 0
def hashNs : List NestedKey → List Int
  | [] => []
  | k :: ks => hashN k :: hashNs ks
end
mutual
/-- the key that a datum is -/
def keyP : PV → Option NestedKey
  | .int i => some (.num i)
  | .tuple xs => (keyPs xs).map .tup
  | _ => none
def keyPs : List PV → Option (List NestedKey)
  | [] => some []
  | x :: xs => (keyP x).bind fun k => (keyPs xs).map (k :: ·)
end
def entN (x : NestedKey × Addr × Value) : DictEntry := ⟨hashN x.1, .ref x.2.1, x.2.2⟩
structure DN0 (h : Heap) (a : Addr) (L : List (NestedKey × Addr × Value)) : Prop where
  ex : ∃ (o : Obj) (es : Array DictEntry) (ep : Nat), h.get? a = some o ∧ o.ExactDict ∧ o.data = .dict es ep ∧ es.toList = L.map entN
  nd : (L.map (·.1)).Nodup
  ns : (a == sysModules) = false
  sz : L.length ≤ sizeLine
def DNO (a : Addr) (L : List (NestedKey × Addr × Value)) : HO := .ext fun h => DN0 h a L
inductive RepN (K : PySem.W.Frag) (F : Hp) : List (NestedKey × Addr × Value) → List (PV × PV) → Prop
  | nil : RepN K F [] []
  | cons {k : NestedKey} {p : PV} {b : Addr} {u : Value} {v : V} {d : PV} {L : List (NestedKey × Addr × Value)} {ds : List (PV × PV)} : keyP p = some k → Rep K F (.ref b) p → RelV v u → Rep K F v d → RepN K F L ds → RepN K F ((k, b, u) :: L) ((p, d) :: ds)
theorem RepN.mono {K : PySem.W.Frag} {F F' : Hp} (e : Same F F') : ∀ {L : List (NestedKey × Addr × Value)} {ds : List (PV × PV)}, RepN K F L ds → RepN K F' L ds
  | _, _, .nil => .nil
  | _, _, .cons z a b c r => .cons z (a.mono e) b (c.mono e) (r.mono e)
/-- code objects stay -/
def CodeKept (H H' : Hp) : Prop := ∀ a q, H a = some (LamX.CodeO a q) → H' a = some (LamX.CodeO a q)
theorem CodeKept.refl {H : Hp} : CodeKept H H := fun _ _ h => h
theorem CodeKept.of {H H' : Hp} (e : Same H H') : CodeKept H H' := fun _ _ h => e _ _ h
theorem CodeKept.upd {H : Hp} {a : Addr} {o : HO} (n : ∀ φ, H a ≠ some (.ext φ)) : CodeKept H (upd H a o) := fun b q h => by
  rw [upd_ne fun z => n _ (by rw [← z]; exact h)]; exact h
/-- the slot owns this address alone -/
def Is (oa : Addr → Prop) (a : Addr) : Prop := ∀ b, oa b ↔ b = a
theorem Is.self {oa : Addr → Prop} {a : Addr} (h : Is oa a) : oa a := (h a).mpr rfl
theorem Is.eq {oa : Addr → Prop} {a b : Addr} (h : Is oa a) (k : oa b) : b = a := (h b).mp k
def IsL (oa : Addr → Prop) (as : List Addr) : Prop := ∀ b, oa b ↔ b ∈ as
theorem IsL.is {oa : Addr → Prop} {a : Addr} (h : IsL oa [a]) : Is oa a := fun b => (h b).trans (by simp)
theorem Is.isL {oa : Addr → Prop} {a : Addr} (h : Is oa a) : IsL oa [a] := fun b => (h b).trans (by simp)
inductive SlotR (K : PySem.W.Frag) (C : Cf) (F : Hp) (oa : Addr → Prop) (H : Hp) : V → Sv → Prop
  | s {v : V} {p : PV} : Rep K F v p → SlotR K C F oa H v (.s p)
  | o {a : Addr} {p : PV} : Is oa a → OwnAt K F H a p → SlotR K C F oa H (.ref a) (.o p)
  | c {f : Addr} {j : Nat} : F f = some (C.clo j f) → SlotR K C F oa H (.ref f) (.c j)
  | cl {a : Addr} {vs : List V} {js : List Nat} : Is oa a → H a = some (.lst vs) → Paired (fun v j => ∃ f c', v = V.ref f ∧ F f = some (C.lam j f c') ∧ H c' = some (LamX.CodeO c' C.lq)) vs js → SlotR K C F oa H (.ref a) (.cl js)
  | d {a : Addr} {L : List (List Int × Addr × Value)} {ds : List (List Int × PV)} : Is oa a → H a = some (DTO a L) → RepD K F L ds → SlotR K C F oa H (.ref a) (.d ds)
  | cs {a : Addr} {vs : List V} {js : List Nat} : F a = some (.lst vs) → Paired (fun v j => ∃ f c', v = V.ref f ∧ F f = some (C.lam j f c') ∧ H c' = some (LamX.CodeO c' C.lq)) vs js → SlotR K C F oa H (.ref a) (.cs js)
  | nk {a : Addr} {L : List (NestedKey × Addr × Value)} {ds : List (PV × PV)} : Is oa a → H a = some (DNO a L) → RepN K F L ds → SlotR K C F oa H (.ref a) (.t ds)
  | kk {a d l : Addr} {j : Option Nat} {o : PV} {ps : List PV} : (∀ i, j = some i → C.dk i = [a, d, l]) → IsL oa [a, d, l] → DeskAt K F H a d l o ps → SlotR K C F oa H (.ref a) (.k j o ps)
  | qq {G : Hp} {v : V} {p : PV} : (∀ a o, G a = some o → (oa a ∧ H a = some o ∧ ∀ ps, o ≠ .tbl ps) ∨ (F a = some o ∧ ∀ xs, o ≠ .lst xs)) → Rep K G v p → SlotR K C F oa H v (.q p)
theorem paired_map {α β : Type} {R S : α → β → Prop} (h : ∀ a b, R a b → S a b) : ∀ {xs : List α} {ys : List β}, Paired R xs ys → Paired S xs ys
  | _, _, .nil => .nil
  | _, _, .cons a b => .cons (h _ _ a) (paired_map h b)
theorem SlotR.mono {K : PySem.W.Frag} {C : Cf} {F F' H H' : Hp} {oa : Addr → Prop} {v : V} {p : Sv} (e : Same F F') (h : ∀ a, oa a → H' a = H a) (hc : CodeKept H H') : SlotR K C F oa H v p → SlotR K C F' oa H' v p
  | .s r => .s (r.mono e)
  | .o q r => .o q (r.mono e (h _ q.self))
  | .c q => .c (e _ _ q)
  | .cl q r t => .cl q ((h _ q.self).trans r) (paired_map (fun _ _ ⟨f, c1, a, b, b1⟩ => ⟨f, c1, a, e _ _ b, hc _ _ b1⟩) t)
  | .d q r t => .d q ((h _ q.self).trans r) (t.mono e)
  | .nk q r t => .nk q ((h _ q.self).trans r) (t.mono e)
  | .kk q r t => .kk q r (t.mono e fun b hb => h b ((r b).mpr hb))
  | .cs r t => .cs (e _ _ r) (paired_map (fun _ _ ⟨f, c1, a, b, b1⟩ => ⟨f, c1, a, e _ _ b, hc _ _ b1⟩) t)
  | .qq g r => .qq (fun a o z => match g a o z with | .inl ⟨z1, z2, z3⟩ => .inl ⟨z1, (h _ z1).trans z2, z3⟩ | .inr ⟨z1, z2⟩ => .inr ⟨e _ _ z1, z2⟩) r
/-- no table is shared -/
def NT (F : Hp) : Prop := ∀ a ps, F a ≠ some (.tbl ps)
theorem NT.put {F : Hp} {a : Addr} {o : HO} (n : NT F) (h : ∀ ps, o ≠ .tbl ps) : NT (upd F a o) := fun b ps z => by
  by_cases q : b = a
  · subst q; rw [upd_same] at z; exact h ps (Option.some.inj z)
  · rw [upd_ne q] at z; exact n b ps z
/-- an object stays; of a table nothing is said -/
def Kept (o : HO) (u : Option HO) : Prop := u = some o ∨ ∃ ps, o = .tbl ps
/-- nothing is known of this place (but a table may stand there) -/
def Fre (H : Hp) (a : Addr) : Prop := ∀ o, H a = some o → ∃ ps, o = .tbl ps
theorem Fre.none {H : Hp} {a : Addr} (h : H a = none) : Fre H a := fun o z => by rw [h] at z; cases z
theorem Fre.no {H : Hp} {a : Addr} {o : HO} (f : Fre H a) (h : H a = some o) (n : ∀ ps, o ≠ .tbl ps) : False := (f o h).elim n
structure Rel (K : PySem.W.Frag) (C : Cf) (F : Hp) (O : Own) (σ : L2.St) (H : Hp) (ρ : En) : Prop where
  sub : Same F H
  len : ρ.length = σ.length
  sl : ∀ i p, ρ[i]? = some (some p) → ∃ v, σ[i]? = some (some v) ∧ SlotR K C F (O i) H v p
  inj : ∀ i j a, O i a → O j a → i = j
  out : ∀ i a, O i a → F a = none ∧ ∃ o, H a = some o ∧ ∀ ps, o ≠ .tbl ps
  io : ∀ p ∈ C.io, IsL (O p.1) p.2
  tabs : LamX.Tabs C.T H
  nt : NT F
theorem Rel.nox {K : PySem.W.Frag} {C : Cf} {F : Hp} {O : Own} {σ : L2.St} {H : Hp} {ρ : En} (r : Rel K C F O σ H ρ) : Rel K C.nox F O σ H ρ :=
  ⟨r.sub, r.len, fun i p h => let ⟨v, a, b⟩ := r.sl i p h; ⟨v, a, match b with | .s x => .s x | .o x y => .o x y | .c x => .c x | .cl x y z => .cl x y z | .d x y z => .d x y z | .nk x y z => .nk x y z | .kk x y z => .kk x y z | .qq x y => .qq x y | .cs x y => .cs x y⟩, r.inj, r.out, r.io, r.tabs, r.nt⟩
theorem Rel.unnox {K : PySem.W.Frag} {C : Cf} {F : Hp} {O : Own} {σ : L2.St} {H : Hp} {ρ : En} (r : Rel K C.nox F O σ H ρ) : Rel K C F O σ H ρ :=
  ⟨r.sub, r.len, fun i p h => let ⟨v, a, b⟩ := r.sl i p h; ⟨v, a, match b with | .s x => .s x | .o x y => .o x y | .c x => .c x | .cl x y z => .cl x y z | .d x y z => .d x y z | .nk x y z => .nk x y z | .kk x y z => .kk x y z | .qq x y => .qq x y | .cs x y => .cs x y⟩, r.inj, r.out, r.io, r.tabs, r.nt⟩
/-- what a piece of a frame's code may have done -/
structure Step (F H : Hp) (O : Own) (F' H' : Hp) (O' : Own) : Prop where
  ext : Same F F'
  new : ∀ a, F' a ≠ none → F a ≠ none ∨ (Fre H a ∨ ∃ i, O i a)
  frm : ∀ a o, H a = some o → (∀ i, ¬ O i a) → Kept o (H' a)
  own : ∀ i a, O' i a → (∃ j, O j a) ∨ Fre H a
theorem Kept.same {o : HO} {u : Option HO} (n : ∀ ps, o ≠ .tbl ps) : Kept o u → u = some o
  | .inl h => h
  | .inr ⟨ps, h⟩ => absurd h (n ps)
theorem Fre.back {H H1 : Hp} {a : Addr} (f : Fre H1 a) (k : ∀ o, H a = some o → Kept o (H1 a)) : Fre H a := fun o h => by
  rcases k o h with z | z
  · exact f o z
  · exact z
theorem Step.refl {F H : Hp} {O : Own} : Step F H O F H O := ⟨.refl _, fun _ h => .inl h, fun _ _ h _ => .inl h, fun i a h => .inl ⟨i, h⟩⟩
theorem Step.key {F H F1 H1 : Hp} {O O1 : Own} (a : Step F H O F1 H1 O1) (x : Addr) (h : Fre H1 x ∨ ∃ i, O1 i x) : Fre H x ∨ ∃ i, O i x := by
  rcases h with h | ⟨i, h⟩
  · by_cases q : ∃ i, O i x
    · exact .inr q
    · exact .inl (h.back fun o e => a.frm x o e fun i z => q ⟨i, z⟩)
  · rcases a.own i x h with ⟨j, z⟩ | z
    · exact .inr ⟨j, z⟩
    · exact .inl z
theorem Step.trans {F H F1 H1 F2 H2 : Hp} {O O1 O2 : Own} (a : Step F H O F1 H1 O1) (b : Step F1 H1 O1 F2 H2 O2) : Step F H O F2 H2 O2 := by
  refine ⟨a.ext.trans b.ext, fun x h => ?_, fun x o h n => ?_, fun i x h => ?_⟩
  · rcases b.new x h with z | z
    · exact a.new x z
    · exact .inr (a.key x z)
  · by_cases ht : ∃ ps, o = .tbl ps
    · exact .inr ht
    · have k := (a.frm x o h n).same fun ps z => ht ⟨ps, z⟩
      refine b.frm x o k fun i z => ?_
      rcases a.own i x z with ⟨j, q⟩ | q
      · exact n j q
      · exact q.no h fun ps z => ht ⟨ps, z⟩
  · rcases b.own i x h with ⟨j, z⟩ | z
    · exact (a.key x (.inr ⟨j, z⟩)).symm
    · exact (a.key x (.inl z)).symm
/-- an address nobody owned at the start -/
def NewAt (H : Hp) (O : Own) (a : Addr) : Prop := Fre H a ∨ ∃ i, O i a
theorem NewAt.back {F H F1 H1 : Hp} {O O1 : Own} {x : Addr} (a : Step F H O F1 H1 O1) (h : NewAt H1 O1 x) : NewAt H O x := a.key x h
structure Fresh (K : PySem.W.Frag) (H : Hp) (O : Own) (F' : Hp) (O' : Own) (H' : Hp) (a : Addr) (p : PV) : Prop where
  new : NewAt H O a
  nF : F' a = none
  nO : ∀ i, ¬ O' i a
  at_ : OwnAt K F' H' a p
def ValK (K : PySem.W.Frag) (k : Kd) (H : Hp) (O : Own) (F' : Hp) (O' : Own) (H' : Hp) (x : V) (p : PV) : Prop :=
  match k with
  | .sh => Rep K F' x p
  | .rd => RepR K F' H' x p
  | .fr => ∃ a, x = .ref a ∧ Fresh K H O F' O' H' a p
theorem Fresh.step {K : PySem.W.Frag} {H F1 H1 F2 H2 : Hp} {O O1 O2 : Own} {a : Addr} {p : PV} (f : Fresh K H O F1 O1 H1 a p) (b : Step F1 H1 O1 F2 H2 O2) : Fresh K H O F2 O2 H2 a p := by
  obtain ⟨o, ho, hnt⟩ := f.at_.plain
  have e := (b.frm a o ho f.nO).same hnt
  refine ⟨f.new, ?_, fun i z => ?_, f.at_.mono b.ext (e.trans ho.symm)⟩
  · cases q : F2 a with
    | none => rfl
    | some u =>
      rcases b.new a (by rw [q]; exact fun z => nomatch z) with z | (z | ⟨i, z⟩)
      · exact absurd f.nF z
      · exact (z.no ho hnt).elim
      · exact absurd z (f.nO i)
  · rcases b.own i a z with ⟨j, q⟩ | q
    · exact f.nO j q
    · exact q.no ho hnt
theorem Fresh.from {K : PySem.W.Frag} {F H F1 H1 F2 H2 : Hp} {O O1 O2 : Own} {a : Addr} {p : PV} (s : Step F H O F1 H1 O1) (f : Fresh K H1 O1 F2 O2 H2 a p) : Fresh K H O F2 O2 H2 a p :=
  ⟨f.new.back s, f.nF, f.nO, f.at_⟩
/-- what is fresh is shared from now on -/
theorem Fresh.share {K : PySem.W.Frag} {C : Cf} {F H F1 H1 : Hp} {O O1 : Own} {σ : L2.St} {ρ : En} {a : Addr} {p : PV} (s : Step F H O F1 H1 O1) (f : Fresh K H O F1 O1 H1 a p) (r : Rel K C F1 O1 σ H1 ρ) :
    ∃ F2, Step F H O F2 H1 O1 ∧ Rel K C F2 O1 σ H1 ρ ∧ Rep K F2 (.ref a) p ∧ Same F1 F2 := by
  obtain ⟨o, ho, hr, hnt⟩ := f.at_.freeze f.nF
  have e : Same F1 (upd F1 a o) := same_put f.nF o
  refine ⟨upd F1 a o, ⟨s.ext.trans e, fun x h => ?_, s.frm, s.own⟩, ⟨fun x u q => ?_, r.len, fun i p' h => ?_, r.inj, fun i x h => ?_, r.io, r.tabs, r.nt.put hnt⟩, hr, e⟩
  · by_cases q : x = a
    · subst q; exact .inr f.new
    · rw [upd_ne q] at h; exact s.new x h
  · by_cases z : x = a
    · subst z; rw [upd_same] at q; cases q; exact ho
    · rw [upd_ne z] at q; exact r.sub x u q
  · obtain ⟨v, h1, h2⟩ := r.sl i p' h
    exact ⟨v, h1, h2.mono e (fun _ _ => rfl) .refl⟩
  · have z : x ≠ a := fun z => f.nO i (by rw [← z]; exact h)
    rw [upd_ne z]
    exact r.out i x h
def ArgK (K : PySem.W.Frag) (k : Kd) (F H : Hp) (xs : List V) (vs : List PV) : Prop := match k with
  | .sh => RepA K F xs vs
  | _ => RepRA K F H xs vs
inductive RE (α : Type) where
  | ok (a : α) (ρ : En) | exc (c : Nat) (ρ : En) | bad
@[simp] def RE.bind {α β : Type} (r : RE α) (f : α → En → RE β) : RE β := match r with
  | .ok a ρ => f a ρ
  | .exc c ρ => .exc c ρ
  | .bad => .bad
inductive SR where
  | nx (ρ : En) | ret (v : PV) (ρ : En) | bk (ρ : En) | ct (ρ : En) | exc (c : Nat) (ρ : En) | bad
inductive FR where
  | ret (v : PV) (outs : List PV) | exc (c : Nat) (outs : List PV) | bad
section
variable (K : PySem.W.Frag) (C : Cf)
def ExcP (F H : Hp) (O : Own) (σ : L2.St) (c : Nat) (ρ' : En) : Prop := ∀ F' O' H', Step F H O F' H' O' → Rel K C F' O' σ H' ρ' → C.W (C.xc c) none σ H'
def PostE (k : Kd) (F H : Hp) (O : Own) (σ : L2.St) (Q : VK) : RE PV → Prop
  | .ok v ρ' => ∀ F' O' H' x, Step F H O F' H' O' → Rel K C F' O' σ H' ρ' → ValK K k H O F' O' H' x v → Q x H'
  | .exc c ρ' => ExcP K C F H O σ c ρ'
  | .bad => False
def tE (k : Kd) (f : En → RE PV) : TE := fun σ H Q => ∃ F O ρ, Rel K C F O σ H ρ ∧ PostE K C k F H O σ Q (f ρ)
def PostB (F H : Hp) (O : Own) (σ : L2.St) (Q : Bool → Hp → Prop) : RE Bool → Prop
  | .ok b ρ' => ∀ F' O' H', Step F H O F' H' O' → Rel K C F' O' σ H' ρ' → Q b H'
  | .exc c ρ' => ExcP K C F H O σ c ρ'
  | .bad => False
def tB' (f : En → RE Bool) : TT := fun σ H Q => ∃ F O ρ, Rel K C F O σ H ρ ∧ PostB K C F H O σ Q (f ρ)
def PostA (k : Kd) (F H : Hp) (O : Own) (σ : L2.St) (Q : List V → Hp → Prop) : RE (List PV) → Prop
  | .ok vs ρ' => ∀ F' O' H' xs, Step F H O F' H' O' → Rel K C F' O' σ H' ρ' → ArgK K k F' H' xs vs → Q xs H'
  | .exc c ρ' => ExcP K C F H O σ c ρ'
  | .bad => False
def tA (k : Kd) (f : En → RE (List PV)) : TA := fun σ H Q => ∃ F O ρ, Rel K C F O σ H ρ ∧ PostA K C k F H O σ Q (f ρ)
def PostS (F H : Hp) (O : Own) (D : Ends) (σ : L2.St) : SR → Prop
  | .nx ρ' => ∀ F' O' σ' H', Step F H O F' H' O' → Rel K C F' O' σ' H' ρ' → D.nx σ' H'
  | .bk ρ' => ∀ F' O' σ' H', Step F H O F' H' O' → Rel K C F' O' σ' H' ρ' → D.bk σ' H'
  | .ct ρ' => ∀ F' O' σ' H', Step F H O F' H' O' → Rel K C F' O' σ' H' ρ' → D.ct σ' H'
  | .ret v ρ' => ∀ F' O' σ' H' x, Step F H O F' H' O' → Rel K C F' O' σ' H' ρ' → ValK K C.kr H O F' O' H' x v → D.rt x H'
  | .exc c ρ' => ∀ F' O' σ' H', Step F H O F' H' O' → Rel K C F' O' σ' H' ρ' → C.W (C.xc c) none σ' H'
  | .bad => False
def tS (g : En → SR) : TS := fun D σ H => ∃ F O ρ, Rel K C F O σ H ρ ∧ PostS K C F H O D σ (g ρ)
end
def EV (X : Cx) (C : Cf) (k : Kd) (e : Expr) (f : En → RE PV) : Prop := PE X e (tE X.K C k f)
def TV (X : Cx) (C : Cf) (e : Expr) (f : En → RE Bool) : Prop := PT X e (tB' X.K C f)
def WV (X : Cx) (C : Cf) (e : Expr) (f : En → RE Bool) : Prop := PW X e (tB' X.K C f)
def AV (X : Cx) (C : Cf) (k : Kd) (es : List Expr) (f : En → RE (List PV)) : Prop := PA X es (tA X.K C k f)
def SV (X : Cx) (C : Cf) (st : Stmt) (g : En → SR) : Prop := PS X st (tS X.K C g)
def SVs (X : Cx) (C : Cf) (st : List Stmt) (g : En → SR) : Prop := PSs X st (tS X.K C g)
theorem PE.imp {X : Cx} {e : Expr} {t t' : TE} (h : PE X e t) (w : ∀ σ H Q, t' σ H Q → t σ H Q) : PE X e t' := ⟨fun pins s σ H Q I q => h.run pins s σ H Q I (w _ _ _ q)⟩
theorem PT.imp {X : Cx} {e : Expr} {t t' : TT} (h : PT X e t) (w : ∀ σ H Q, t' σ H Q → t σ H Q) : PT X e t' := ⟨fun pins s σ H Q I q => h.run pins s σ H Q I (w _ _ _ q)⟩
theorem PW.imp {X : Cx} {e : Expr} {t t' : TT} (h : PW X e t) (w : ∀ σ H Q, t' σ H Q → t σ H Q) : PW X e t' := ⟨fun wh pins s σ H Q I q => h.run wh pins s σ H Q I (w _ _ _ q)⟩
theorem PA.imp {X : Cx} {e : List Expr} {t t' : TA} (h : PA X e t) (w : ∀ σ H Q, t' σ H Q → t σ H Q) : PA X e t' := ⟨fun pos pins s σ H Q I q => h.run pos pins s σ H Q I (w _ _ _ q)⟩
theorem PS.imp {X : Cx} {e : Stmt} {t t' : TS} (h : PS X e t) (w : ∀ D σ H, t' D σ H → t D σ H) : PS X e t' := ⟨fun pins s σ H D I q => h.run pins s σ H D I (w _ _ _ q)⟩
theorem PSs.imp {X : Cx} {e : List Stmt} {t t' : TS} (h : PSs X e t) (w : ∀ D σ H, t' D σ H → t D σ H) : PSs X e t' := ⟨fun pins s σ H D I q => h.run pins s σ H D I (w _ _ _ q)⟩
@[simp] def En.at (ρ : En) (i : Nat) : Option Sv := match ρ[i]? with | some (some p) => some p | _ => none
theorem En.at_some {ρ : En} {i : Nat} {p : Sv} (h : ρ.at i = some p) : ρ[i]? = some (some p) := by
  unfold En.at at h
  split at h
  · rename_i q e; cases h; exact e
  · cases h
section
variable {K : PySem.W.Frag} {C : Cf} {F H : Hp} {O : Own} {σ : L2.St} {ρ : En} {i : Nat}
theorem Rel.get (r : Rel K C F O σ H ρ) {p : Sv} (h : ρ.at i = some p) : ∃ v, σ[i]? = some (some v) ∧ SlotR K C F (O i) H v p := r.sl i p (En.at_some h)
def freeO (O : Own) (i : Nat) : Own := fun j a => j ≠ i ∧ O j a
theorem freeO_ne {O : Own} {i j : Nat} (n : j ≠ i) : freeO O i j = O j := funext fun a => propext ⟨fun h => h.2, fun h => ⟨n, h⟩⟩
theorem freeO_le {O : Own} {i j : Nat} {a : Addr} (h : freeO O i j a) : O j a ∧ j ≠ i := ⟨h.2, h.1⟩
theorem getElem_set {α : Type} {l : List α} {i j : Nat} {x y : α} (h : (l.set i x)[j]? = some y) : (j = i ∧ y = x ∧ i < l.length) ∨ (j ≠ i ∧ l[j]? = some y) := by
  by_cases q : j = i
  · subst q
    by_cases z : j < l.length
    · rw [List.getElem?_set_self z] at h; exact .inl ⟨rfl, (Option.some.inj h).symm, z⟩
    · rw [List.getElem?_eq_none (by simpa using Nat.le_of_not_lt z)] at h; cases h
  · rw [List.getElem?_set_ne (Ne.symm q)] at h
    exact .inr ⟨q, h⟩
/-- the slot's own object is given away -/
theorem Rel.move (r : Rel K C F O σ H ρ) (hi : i ∉ C.ioS) : Rel K C F (freeO O i) σ H (ρ.set i none) := by
  refine ⟨r.sub, by rw [List.length_set]; exact r.len, fun j p h => ?_, fun j k a h1 h2 => r.inj j k a (freeO_le h1).1 (freeO_le h2).1, fun j a h => r.out j a (freeO_le h).1, fun p hp => ?_, r.tabs, r.nt⟩
  · rcases getElem_set h with ⟨_, z, _⟩ | ⟨n, h⟩
    · cases z
    · obtain ⟨v, h1, h2⟩ := r.sl j p h
      refine ⟨v, h1, ?_⟩
      rw [freeO_ne n]; exact h2
  · rw [freeO_ne fun z => hi (by rw [← z]; exact (List.of_mem_zip (show (p.1, p.2) ∈ C.ioS.zip C.ioA from hp)).1)]
    exact r.io p hp
theorem step_free : Step F H O F H (freeO O i) := ⟨.refl _, fun _ h => .inl h, fun _ _ h _ => .inl h, fun j a h => .inl ⟨j, (freeO_le h).1⟩⟩
/-- .. is frozen, and stays in its slot -/
theorem Rel.freeze (r : Rel K C F O σ H ρ) (hi : i ∉ C.ioS) {a : Addr} {p : PV} (ha : Is (O i) a) (q : OwnAt K F H a p) (hv : σ[i]? = some (some (.ref a))) :
    ∃ F', Step F H O F' H (freeO O i) ∧ Rel K C F' (freeO O i) σ H (ρ.set i (some (.s p))) ∧ Rep K F' (.ref a) p := by
  obtain ⟨nF, _⟩ := r.out i a ha.self
  obtain ⟨o, ho, hr, hnt⟩ := q.freeze nF
  have e : Same F (upd F a o) := same_put nF o
  have ne : ∀ j b, freeO O i j b → b ≠ a := fun j b h z => (freeO_le h).2 (r.inj j i a (by rw [← z]; exact (freeO_le h).1) ha.self)
  refine ⟨upd F a o, ⟨e, fun x h => ?_, fun _ _ h _ => .inl h, fun j b h => .inl ⟨j, (freeO_le h).1⟩⟩, ⟨fun x u h => ?_, by rw [List.length_set]; exact r.len, fun j p' h => ?_, fun j k b h1 h2 => r.inj j k b (freeO_le h1).1 (freeO_le h2).1, fun j b h => ?_, fun p' hp => ?_, r.tabs, r.nt.put hnt⟩, hr⟩
  · by_cases z : x = a
    · subst z; exact .inr (.inr ⟨i, ha.self⟩)
    · rw [upd_ne z] at h; exact .inl h
  · by_cases z : x = a
    · subst z; rw [upd_same] at h; cases h; exact ho
    · rw [upd_ne z] at h; exact r.sub x u h
  · rcases getElem_set h with ⟨z, z2, _⟩ | ⟨n, h⟩
    · subst z; cases z2; exact ⟨_, hv, .s hr⟩
    · obtain ⟨v, h1, h2⟩ := r.sl j p' h
      refine ⟨v, h1, ?_⟩
      rw [freeO_ne n]; exact h2.mono e (fun _ _ => rfl) .refl
  · rw [upd_ne (ne j b h)]; exact r.out j b (freeO_le h).1
  · rw [freeO_ne fun z => hi (by rw [← z]; exact (List.of_mem_zip (show (p'.1, p'.2) ∈ C.ioS.zip C.ioA from hp)).1)]
    exact r.io p' hp
theorem SlotR.read {v : V} {p : Sv} {q : PV} (s : SlotR K C F (O i) H v p) (e : p = .s q ∨ p = .o q) : RepR K F H v q := by
  rcases e with rfl | rfl
  · cases s with | s r => exact .s r
  · cases s with | o _ r => exact .o r
end
section
variable {X : Cx} {C : Cf} {e : Expr} {i : Nat} {x : Str} {pos : Pos}
@[simp] def eVar (i : Nat) (ρ : En) : RE PV := match ρ.at i with | some (.s v) => .ok v ρ | _ => .bad
@[simp] def eRd (i : Nat) (ρ : En) : RE PV := match ρ.at i with | some (.s v) => .ok v ρ | some (.o v) => .ok v ρ | _ => .bad
@[simp] def eShr (i : Nat) (ρ : En) : RE PV := match ρ.at i with | some (.s v) => .ok v ρ | some (.o v) => .ok v (ρ.set i (some (.s v))) | _ => .bad
@[simp] def eMv (i : Nat) (ρ : En) : RE PV := match ρ.at i with | some (.o v) => .ok v (ρ.set i none) | _ => .bad
theorem ev_var (h : PE X (.Name x pos) (tVar i)) : EV X C .sh (.Name x pos) (eVar i) := by
  refine PE.imp h fun σ H Q ⟨F, O, ρ, r, q⟩ => ?_
  unfold eVar at q
  split at q
  · rename_i v e
    obtain ⟨w, h1, h2⟩ := r.get e
    refine ⟨w, h1, q F O H w .refl r ?_⟩
    cases h2 with | s z => exact z
  · exact q.elim
theorem ev_shr (h : PE X (.Name x pos) (tVar i)) (hi : i ∉ C.ioS) : EV X C .sh (.Name x pos) (eShr i) := by
  refine PE.imp h fun σ H Q ⟨F, O, ρ, r, q⟩ => ?_
  unfold eShr at q
  split at q
  · rename_i v e
    obtain ⟨w, h1, h2⟩ := r.get e
    refine ⟨w, h1, q F O H w .refl r ?_⟩
    cases h2 with | s z => exact z
  · rename_i v e
    obtain ⟨w, h1, h2⟩ := r.get e
    cases h2 with
    | o z1 z2 =>
      obtain ⟨F', s1, r1, p1⟩ := r.freeze hi z1 z2 h1
      exact ⟨_, h1, q F' _ H _ s1 r1 p1⟩
  · exact q.elim
theorem ev_mv (h : PE X (.Name x pos) (tVar i)) (hi : i ∉ C.ioS) : EV X C .fr (.Name x pos) (eMv i) := by
  refine PE.imp h fun σ H Q ⟨F, O, ρ, r, q⟩ => ?_
  unfold eMv at q
  split at q
  · rename_i v e
    obtain ⟨w, h1, h2⟩ := r.get e
    cases h2 with
    | o z1 z2 =>
      refine ⟨_, h1, q F _ H _ (step_free (i := i)) (r.move hi) ⟨_, rfl, .inr ⟨i, z1.self⟩, (r.out i _ z1.self).1, fun j z => (freeO_le z).2 (r.inj j i _ (freeO_le z).1 z1.self), z2⟩⟩
  · exact q.elim
/-- kinds: what is fresh may be shared, what is shared or fresh may be read -/
theorem ev_fs {f : En → RE PV} (h : EV X C .fr e f) : EV X C .sh e f := by
  refine PE.imp h fun σ H Q ⟨F, O, ρ, r, q⟩ => ⟨F, O, ρ, r, ?_⟩
  cases hf : f ρ with
  | ok v ρ' =>
    rw [hf] at q
    intro F' O' H' x s1 r1 ⟨a, ex, fr⟩
    subst ex
    obtain ⟨F2, s2, r2, p2, _⟩ := fr.share s1 r1
    exact q F2 O' H' _ s2 r2 p2
  | exc c ρ' => rw [hf] at q; exact q
  | bad => rw [hf] at q; exact q
theorem ev_sr {f : En → RE PV} (h : EV X C .sh e f) : EV X C .rd e f := by
  refine PE.imp h fun σ H Q ⟨F, O, ρ, r, q⟩ => ⟨F, O, ρ, r, ?_⟩
  cases hf : f ρ with
  | ok v ρ' =>
    rw [hf] at q
    intro F' O' H' x s1 r1 p1
    exact q F' O' H' x s1 r1 (.s p1)
  | exc c ρ' => rw [hf] at q; exact q
  | bad => rw [hf] at q; exact q
/-- a constant -/
@[simp] def eC (v : PV) (ρ : En) : RE PV := .ok v ρ
theorem ev_c {v : V} {p : PV} (h : PE X e (tC v)) (hr : ∀ F, Rep X.K F v p) : EV X C .sh e (eC p) := by
  refine PE.imp h fun σ H Q ⟨F, O, ρ, r, q⟩ => ?_
  exact q F O H v .refl r (hr F)
theorem ev_int {j k pos} : EV X C .sh (.Constant (.int j) k pos) (eC (.int j)) := ev_c pe_int fun _ => .int j
theorem ev_bl {j k pos} : EV X C .sh (.Constant (.bool j) k pos) (eC (.bool j)) := ev_c pe_bl fun _ => .bl j
theorem ev_non {k pos} : EV X C .sh (.Constant .none k pos) (eC .none) := ev_c pe_non fun _ => .non
end
end Fx
namespace Fx
open PySem PySem.Spec PyProof.Rows L2
section
variable {K : PySem.W.Frag} {C : Cf} {F H F1 H1 F2 H2 : Hp} {O O1 O2 : Own} {σ : L2.St} {ρ ρ' : En}
theorem ExcP.from {c : Nat} (s : Step F H O F1 H1 O1) (q : ExcP K C F H O σ c ρ') : ExcP K C F1 H1 O1 σ c ρ' := fun F' O' H' s' r' => q F' O' H' (s.trans s') r'
theorem RepR.step {x : V} {p : PV} (h : Rep K F1 x p) (s : Step F1 H1 O1 F2 H2 O2) : RepR K F2 H2 x p := .s (h.mono s.ext)
/-- an early value, behind a further piece of code -/
theorem ValK.step {k : Kd} (hk : k ≠ .rd) {x : V} {p : PV} (h : ValK K k H O F1 O1 H1 x p) (s : Step F1 H1 O1 F2 H2 O2) : RepR K F2 H2 x p := by
  cases k with
  | sh => exact .s (Rep.mono s.ext h)
  | rd => exact absurd rfl hk
  | fr =>
    obtain ⟨a, rfl, f⟩ := h
    exact .o (f.step s).at_
theorem ValK.rd {k : Kd} {x : V} {p : PV} (h : ValK K k H O F1 O1 H1 x p) : RepR K F1 H1 x p := by
  cases k with
  | sh => exact .s h
  | rd => exact h
  | fr =>
    obtain ⟨a, rfl, f⟩ := h
    exact .o f.at_
theorem ValK.from {k : Kd} {x : V} {p : PV} (s : Step F H O F1 H1 O1) (h : ValK K k H1 O1 F2 O2 H2 x p) : ValK K k H O F2 O2 H2 x p := by
  cases k with
  | sh => exact h
  | rd => exact h
  | fr =>
    obtain ⟨a, e, f⟩ := h
    exact ⟨a, e, f.from s⟩
theorem PostE.from {k : Kd} {Q : VK} (s : Step F H O F1 H1 O1) : ∀ {r : RE PV}, PostE K C k F H O σ Q r → PostE K C k F1 H1 O1 σ Q r
  | .ok v ρ', q => fun F' O' H' x s' r' p' => q F' O' H' x (s.trans s') r' (p'.from s)
  | .exc c ρ', q => ExcP.from s q
  | .bad, q => q
theorem PostB.from {Q : Bool → Hp → Prop} (s : Step F H O F1 H1 O1) : ∀ {r : RE Bool}, PostB K C F H O σ Q r → PostB K C F1 H1 O1 σ Q r
  | .ok v ρ', q => fun F' O' H' s' r' => q F' O' H' (s.trans s') r'
  | .exc c ρ', q => ExcP.from s q
  | .bad, q => q
theorem PostS.from {D : Ends} {σ1 : L2.St} (s : Step F H O F1 H1 O1) : ∀ {r : SR}, PostS K C F H O D σ r → PostS K C F1 H1 O1 D σ1 r
  | .nx ρ', q => fun F' O' σ' H' s' r' => q F' O' σ' H' (s.trans s') r'
  | .bk ρ', q => fun F' O' σ' H' s' r' => q F' O' σ' H' (s.trans s') r'
  | .ct ρ', q => fun F' O' σ' H' s' r' => q F' O' σ' H' (s.trans s') r'
  | .ret v ρ', q => fun F' O' σ' H' x s' r' p' => q F' O' σ' H' x (s.trans s') r' (p'.from s)
  | .exc c ρ', q => fun F' O' σ' H' s' r' => q F' O' σ' H' (s.trans s') r'
  | .bad, q => q
/-- an expression's end from the state it is at -/
theorem tE.go {k : Kd} {f : En → RE PV} {Q : VK} (r : Rel K C F O σ H ρ) (q : PostE K C k F H O σ Q (f ρ)) : tE K C k f σ H Q := ⟨F, O, ρ, r, q⟩
/-- e, then what is made of its value -/
theorem tE.bind {k : Kd} {f : En → RE PV} {Q : VK} (r : Rel K C F O σ H ρ)
    (ok : ∀ v ρ1 F1 O1 H1 x, f ρ = .ok v ρ1 → Step F H O F1 H1 O1 → Rel K C F1 O1 σ H1 ρ1 → ValK K k H O F1 O1 H1 x v → Q x H1) (ex : ∀ c ρ1, f ρ = .exc c ρ1 → ExcP K C F H O σ c ρ1) (nb : f ρ ≠ .bad) : tE K C k f σ H Q := by
  refine ⟨F, O, ρ, r, ?_⟩
  cases e : f ρ with
  | ok v ρ1 => exact fun F1 O1 H1 x s1 r1 p1 => ok v ρ1 F1 O1 H1 x e s1 r1 p1
  | exc c ρ1 => exact ex c ρ1 e
  | bad => exact absurd e nb
theorem tB'.bind {f : En → RE Bool} {Q : Bool → Hp → Prop} (r : Rel K C F O σ H ρ)
    (ok : ∀ v ρ1 F1 O1 H1, f ρ = .ok v ρ1 → Step F H O F1 H1 O1 → Rel K C F1 O1 σ H1 ρ1 → Q v H1) (ex : ∀ c ρ1, f ρ = .exc c ρ1 → ExcP K C F H O σ c ρ1) (nb : f ρ ≠ .bad) : tB' K C f σ H Q := by
  refine ⟨F, O, ρ, r, ?_⟩
  cases e : f ρ with
  | ok v ρ1 => exact fun F1 O1 H1 s1 r1 => ok v ρ1 F1 O1 H1 e s1 r1
  | exc c ρ1 => exact ex c ρ1 e
  | bad => exact absurd e nb
theorem Rel.alloc {p : Addr} {o : HO} (r : Rel K C F O σ H ρ) (n : H p = none) : Rel K C F O σ (upd H p o) ρ ∧ Step F H O F (upd H p o) O := by
  have e : Same H (upd H p o) := same_put n o
  refine ⟨⟨fun a u q => e a u (r.sub a u q), r.len, fun i q h => ?_, r.inj, fun i a h => ?_, r.io, r.tabs.ext e, r.nt⟩, ⟨.refl _, fun _ h => .inl h, fun a u h _ => .inl (e a u h), fun i a h => .inl ⟨i, h⟩⟩⟩
  · obtain ⟨v, h1, h2⟩ := r.sl i q h
    refine ⟨v, h1, h2.mono (.refl _) (fun a ha => ?_) (.of e)⟩
    obtain ⟨_, u, hu, _⟩ := r.out i a ha
    rw [e a u hu, hu]
  · obtain ⟨h1, u, h2, h3⟩ := r.out i a h
    exact ⟨h1, u, e a u h2, h3⟩
theorem Rel.free {p : Addr} (r : Rel K C F O σ H ρ) (n : H p = none) : F p = none ∧ ∀ i, ¬ O i p := by
  refine ⟨Same.free r.sub n, fun i h => ?_⟩
  obtain ⟨_, u, hu, _⟩ := r.out i p h
  rw [n] at hu; cases hu
theorem Rel.allocF {p : Addr} {o : HO} (r : Rel K C F O σ H ρ) (n : H p = none) (hnt : ∀ ps, o ≠ .tbl ps := by intro _ z; cases z) : Rel K C (upd F p o) O σ (upd H p o) ρ ∧ Step F H O (upd F p o) (upd H p o) O := by
  have e : Same H (upd H p o) := same_put n o
  have eF : Same F (upd F p o) := same_put (r.free n).1 o
  have nO := (r.free n).2
  refine ⟨⟨fun a u q => ?_, r.len, fun i q h => ?_, r.inj, fun i a h => ?_, r.io, r.tabs.ext e, r.nt.put hnt⟩, ⟨eF, fun a h => ?_, fun a u h _ => .inl (e a u h), fun i a h => .inl ⟨i, h⟩⟩⟩
  · by_cases z : a = p
    · subst z; rw [upd_same] at q ⊢; exact q
    · rw [upd_ne z] at q ⊢; exact r.sub a u q
  · obtain ⟨v, h1, h2⟩ := r.sl i q h
    refine ⟨v, h1, h2.mono eF (fun a ha => ?_) (.of e)⟩
    obtain ⟨_, u, hu, _⟩ := r.out i a ha
    rw [e a u hu, hu]
  · obtain ⟨h1, u, h2, h3⟩ := r.out i a h
    exact ⟨by rw [upd_ne fun z => nO i (by rw [← z]; exact h)]; exact h1, u, e a u h2, h3⟩
  · by_cases z : a = p
    · subst z; exact .inr (.inl (.none n))
    · rw [upd_ne z] at h; exact .inl h
theorem Rel.newList {p : Addr} {xs : List V} {ds : List PV} (r : Rel K C F O σ H ρ) (n : H p = none) (q : RepA K F xs ds) :
    Step F H O F (upd H p (.lst xs)) O ∧ Rel K C F O σ (upd H p (.lst xs)) ρ ∧ Fresh K H O F O (upd H p (.lst xs)) p (.list ds) :=
  ⟨(r.alloc n).2, (r.alloc n).1, .inl (.none n), (r.free n).1, (r.free n).2, .lst upd_same q⟩
theorem Rel.newTup {p : Addr} {xs : List V} {ds : List PV} {o : Obj} (r : Rel K C F O σ H ρ) (n : H p = none) (hd : o.dict = none) (q : RepA K F xs ds) :
    ∃ F', Step F H O F' (upd H p (.frz o (.tup xs))) O ∧ Rel K C F' O σ (upd H p (.frz o (.tup xs))) ρ ∧ Rep K F' (.ref p) (.tuple ds) :=
  ⟨_, (r.allocF n).2, (r.allocF n).1, .tup (.inl ⟨o, upd_same, hd⟩) (q.mono (same_put (r.free n).1 _))⟩
theorem tabs_upd {T : List (Addr × Str)} {H : Hp} {a : Addr} {o : HO} (t : LamX.Tabs T H) (h1 : ∀ ps, H a ≠ some (.tbl ps)) (h2 : ∀ φ, H a ≠ some (.ext φ)) : LamX.Tabs T (upd H a o) := fun p hp => by
  obtain ⟨ps, e, t1, t2⟩ := t p hp
  refine ⟨ps, by rw [upd_ne fun z => h1 ps (by rw [← z]; exact e)]; exact e, t1, fun pos cv hc => ?_⟩
  obtain ⟨c, e1, e2⟩ := t2 pos cv hc
  exact ⟨c, e1, by rw [upd_ne fun z => h2 _ (by rw [← z]; exact e2)]; exact e2⟩
/-- an owned object is written -/
theorem Rel.write {i : Nat} {a : Addr} {o : HO} {p : PV} (r : Rel K C F O σ H ρ) (hv : σ[i]? = some (some (.ref a))) (ha : Is (O i) a) {p0 : PV} (q0 : OwnAt K F H a p0) (q : OwnAt K F (upd H a o) a p) :
    Step F H O F (upd H a o) O ∧ Rel K C F O σ (upd H a o) (ρ.set i (some (.o p))) := by
  obtain ⟨nF, u, hu⟩ := r.out i a ha.self
  refine ⟨⟨.refl _, fun _ h => .inl h, fun b w h n => ?_, fun j b h => .inl ⟨j, h⟩⟩, ⟨fun b w h => ?_, by rw [List.length_set]; exact r.len, fun j p' h => ?_, r.inj, fun j b h => ?_, r.io, ?_, r.nt⟩⟩
  · rw [upd_ne fun z => n i (by rw [z]; exact ha.self)]; exact .inl h
  · rw [upd_ne fun z => by rw [z, nF] at h; cases h]; exact r.sub b w h
  · rcases getElem_set h with ⟨z, z2, _⟩ | ⟨n, h⟩
    · subst z; cases z2; exact ⟨_, hv, .o ha q⟩
    · obtain ⟨v, h1, h2⟩ := r.sl j p' h
      refine ⟨v, h1, h2.mono (.refl _) (fun b hb => ?_) (.upd q0.notExt)⟩
      rw [upd_ne fun z => n (r.inj j i a (by rw [← z]; exact hb) ha.self)]
  · by_cases z : b = a
    · subst z; exact ⟨nF, _, upd_same, by obtain ⟨o', e1, e2⟩ := q.plain; rw [upd_same] at e1; cases e1; exact e2⟩
    · rw [upd_ne z]; exact r.out j b h
  · exact tabs_upd r.tabs (fun ps z => by obtain ⟨o', e1, e2⟩ := q0.plain; rw [e1] at z; exact e2 ps (Option.some.inj z)) fun φ => q0.notExt φ
/-- a shared value goes into a slot -/
theorem Rel.putS {i : Nat} {x : V} {p : PV} (r : Rel K C F O σ H ρ) (hi : i ∉ C.ioS) (q : Rep K F x p) : Rel K C F (freeO O i) (σ.set i (some x)) H (ρ.set i (some (.s p))) := by
  refine ⟨r.sub, by rw [List.length_set, List.length_set]; exact r.len, fun j p' h => ?_, fun j k a h1 h2 => r.inj j k a (freeO_le h1).1 (freeO_le h2).1, fun j a h => r.out j a (freeO_le h).1, fun p' hp => ?_, r.tabs, r.nt⟩
  · rcases getElem_set h with ⟨z, z2, hl⟩ | ⟨n, h⟩
    · subst z; cases z2
      exact ⟨x, List.getElem?_set_self (by rw [← r.len]; exact hl), .s q⟩
    · obtain ⟨v, h1, h2⟩ := r.sl j p' h
      refine ⟨v, by rw [List.getElem?_set_ne (Ne.symm n)]; exact h1, ?_⟩
      rw [freeO_ne n]; exact h2
  · rw [freeO_ne fun z => hi (by rw [← z]; exact (List.of_mem_zip (show (p'.1, p'.2) ∈ C.ioS.zip C.ioA from hp)).1)]
    exact r.io p' hp
def putO (O : Own) (i : Nat) (a : Addr) : Own := fun j b => (j = i ∧ b = a) ∨ (j ≠ i ∧ O j b)
theorem putO_ne {O : Own} {i j : Nat} {a : Addr} (n : j ≠ i) : putO O i a j = O j := funext fun b => propext ⟨fun h => h.elim (fun h => absurd h.1 n) (·.2), fun h => .inr ⟨n, h⟩⟩
theorem putO_is {O : Own} {i : Nat} {a : Addr} : Is (putO O i a i) a := fun b => ⟨fun h => h.elim (·.2) fun h => absurd rfl h.1, fun h => .inl ⟨rfl, h⟩⟩
/-- an owned one goes into a slot -/
theorem Rel.putO {i : Nat} {a : Addr} {p : PV} (s : Step F H O F1 H1 O1) (r : Rel K C F1 O1 σ H1 ρ) (hi : i ∉ C.ioS) (f : Fresh K H O F1 O1 H1 a p) :
    Step F H O F1 H1 (putO O1 i a) ∧ Rel K C F1 (putO O1 i a) (σ.set i (some (.ref a))) H1 (ρ.set i (some (.o p))) := by
  have le : ∀ {j b}, Fx.putO O1 i a j b → (j = i ∧ b = a) ∨ (j ≠ i ∧ O1 j b) := fun {j b} h => h
  refine ⟨⟨s.ext, s.new, s.frm, fun j b h => ?_⟩, ⟨r.sub, by rw [List.length_set, List.length_set]; exact r.len, fun j p' h => ?_, fun j k b h1 h2 => ?_, fun j b h => ?_, fun p' hp => ?_, r.tabs, r.nt⟩⟩
  · rcases le h with ⟨_, z⟩ | ⟨_, z⟩
    · subst z; exact f.new.symm
    · exact s.own j b z
  · rcases getElem_set h with ⟨z, z2, hl⟩ | ⟨n, h⟩
    · subst z; cases z2
      exact ⟨_, List.getElem?_set_self (by rw [← r.len]; exact hl), .o putO_is f.at_⟩
    · obtain ⟨v, h1, h2⟩ := r.sl j p' h
      refine ⟨v, by rw [List.getElem?_set_ne (Ne.symm n)]; exact h1, ?_⟩
      rw [putO_ne n]; exact h2
  · rcases le h1 with ⟨z1, z2⟩ | ⟨z1, z2⟩
    · rcases le h2 with ⟨w1, w2⟩ | ⟨w1, w2⟩
      · rw [z1, w1]
      · subst z2; exact absurd w2 (f.nO k)
    · rcases le h2 with ⟨w1, w2⟩ | ⟨w1, w2⟩
      · subst w2; exact absurd z2 (f.nO j)
      · exact r.inj j k b z2 w2
  · rcases le h with ⟨_, z⟩ | ⟨_, z⟩
    · subst z; exact ⟨f.nF, f.at_.plain⟩
    · exact r.out j b z
  · rw [putO_ne fun z => hi (by rw [← z]; exact (List.of_mem_zip (show (p'.1, p'.2) ∈ C.ioS.zip C.ioA from hp)).1)]
    exact r.io p' hp
end
section
variable (K : PySem.W.Frag) (C : Cf)
def Post2 (F H : Hp) (O : Own) (σ : L2.St) (R : V → V → Hp → Prop) : RE (PV × PV) → Prop
  | .ok p ρ' => ∀ F' O' H' x y, Step F H O F' H' O' → Rel K C F' O' σ H' ρ' → RepR K F' H' x p.1 → RepR K F' H' y p.2 → R x y H'
  | .exc c ρ' => ExcP K C F H O σ c ρ'
  | .bad => False
def t2 (f : En → RE (PV × PV)) (σ : L2.St) (H : Hp) (R : V → V → Hp → Prop) : Prop := ∃ F O ρ, Rel K C F O σ H ρ ∧ Post2 K C F H O σ R (f ρ)
end
structure E2 (X : Cx) (C : Cf) (a b : Expr) (f : En → RE (PV × PV)) : Prop where
  ex : ∃ ta tb, PE X a ta ∧ PE X b tb ∧ ∀ σ H R, t2 X.K C f σ H R → ta σ H fun x H1 => tb σ H1 fun y H2 => R x y H2
section
variable {X : Cx} {C : Cf} {a b e : Expr} {es : List Expr} {fa fb : En → RE PV} {pos : Pos}
@[simp] def pE (fa fb : En → RE PV) (ρ : En) : RE (PV × PV) := (fa ρ).bind fun v ρ1 => (fb ρ1).bind fun w ρ2 => .ok (v, w) ρ2
/-- the left one is a name that is looked at behind the right one -/
@[simp] def pL (i : Nat) (fb : En → RE PV) (ρ : En) : RE (PV × PV) := match ρ.at i with
  | none => .bad
  | some _ => (fb ρ).bind fun w ρ2 => match ρ2.at i with
    | some (.s v) => .ok (v, w) ρ2
    | some (.o v) => .ok (v, w) ρ2
    | _ => .bad
theorem e2_e {ka kb : Kd} (hk : ka ≠ .rd) (ha : EV X C ka a fa) (hb : EV X C kb b fb) : E2 X C a b (pE fa fb) := by
  refine ⟨_, _, ha, hb, fun σ H R ⟨F, O, ρ, r, q⟩ => ?_⟩
  unfold pE at q
  refine tE.bind r (fun v ρ1 F1 O1 H1 x e1 s1 r1 p1 => ?_) (fun c ρ1 e1 => ?_) fun e1 => ?_
  · rw [e1] at q
    refine tE.bind r1 (fun w ρ2 F2 O2 H2 y e2 s2 r2 p2 => ?_) (fun c ρ2 e2 => ?_) fun e2 => ?_
    · simp only [RE.bind, e2] at q
      exact q F2 O2 H2 x y (s1.trans s2) r2 (p1.step hk s2) p2.rd
    · simp only [RE.bind, e2] at q
      exact ExcP.from s1 q
    · simp only [RE.bind, e2] at q
      exact q.elim
  · rw [e1] at q; exact q
  · rw [e1] at q; exact q.elim
theorem e2_l {kb : Kd} {i : Nat} {x : Str} {px : Pos} (hx : PE X (.Name x px) (tVar i)) (hb : EV X C kb b fb) : E2 X C (.Name x px) b (pL i fb) := by
  refine ⟨_, _, hx, hb, fun σ H R ⟨F, O, ρ, r, q⟩ => ?_⟩
  unfold pL at q
  split at q
  · exact q.elim
  · rename_i p hp
    obtain ⟨v0, h1, _⟩ := r.get hp
    refine ⟨v0, h1, tE.bind r (fun w ρ2 F2 O2 H2 y e2 s2 r2 p2 => ?_) (fun c ρ2 e2 => ?_) fun e2 => ?_⟩
    · simp only [RE.bind, e2] at q
      split at q
      · rename_i v hv
        obtain ⟨v1, h3, h4⟩ := r2.get hv
        rw [h1] at h3; cases h3
        exact q F2 O2 H2 _ y s2 r2 (h4.read (.inl rfl)) p2.rd
      · rename_i v hv
        obtain ⟨v1, h3, h4⟩ := r2.get hv
        rw [h1] at h3; cases h3
        exact q F2 O2 H2 _ y s2 r2 (h4.read (.inr rfl)) p2.rd
      · exact q.elim
    · simp only [RE.bind, e2] at q; exact q
    · simp only [RE.bind, e2] at q; exact q.elim
@[simp] def aNil (ρ : En) : RE (List PV) := .ok [] ρ
@[simp] def aCons (fa : En → RE PV) (fr : En → RE (List PV)) (ρ : En) : RE (List PV) := (fa ρ).bind fun v ρ1 => (fr ρ1).bind fun vs ρ2 => .ok (v :: vs) ρ2
@[simp] def aLate (i : Nat) (fr : En → RE (List PV)) (ρ : En) : RE (List PV) := match ρ.at i with
  | none => .bad
  | some _ => (fr ρ).bind fun vs ρ2 => match ρ2.at i with
    | some (.s v) => .ok (v :: vs) ρ2
    | some (.o v) => .ok (v :: vs) ρ2
    | _ => .bad
theorem av_nil {k : Kd} : AV X C k [] aNil := PA.imp pa_nil fun σ H Q ⟨F, O, ρ, r, q⟩ => q F O H [] .refl r (by cases k <;> first | exact .nil)
theorem tA.bind {K : PySem.W.Frag} {F H : Hp} {O : Own} {σ : L2.St} {ρ : En} {k : Kd} {f : En → RE (List PV)} {Q : List V → Hp → Prop} (r : Rel K C F O σ H ρ)
    (ok : ∀ v ρ1 F1 O1 H1 x, f ρ = .ok v ρ1 → Step F H O F1 H1 O1 → Rel K C F1 O1 σ H1 ρ1 → ArgK K k F1 H1 x v → Q x H1) (ex : ∀ c ρ1, f ρ = .exc c ρ1 → ExcP K C F H O σ c ρ1) (nb : f ρ ≠ .bad) : tA K C k f σ H Q := by
  refine ⟨F, O, ρ, r, ?_⟩
  cases e : f ρ with
  | ok v ρ1 => exact fun F1 O1 H1 x s1 r1 p1 => ok v ρ1 F1 O1 H1 x e s1 r1 p1
  | exc c ρ1 => exact ex c ρ1 e
  | bad => exact absurd e nb
theorem av_cons {fr : En → RE (List PV)} (ha : EV X C .sh e fa) (hr : AV X C .sh es fr) (hs : starEach (e :: es) X.env = (false, eval e X.env) :: starEach es X.env := by rfl) : AV X C .sh (e :: es) (aCons fa fr) := by
  refine PA.imp (pa_cons ha hr hs) fun σ H Q ⟨F, O, ρ, r, q⟩ => ?_
  unfold aCons at q
  refine tE.bind r (fun v ρ1 F1 O1 H1 x e1 s1 r1 p1 => ?_) (fun c ρ1 e1 => ?_) fun e1 => ?_
  · rw [e1] at q
    refine tA.bind r1 (fun w ρ2 F2 O2 H2 y e2 s2 r2 p2 => ?_) (fun c ρ2 e2 => ?_) fun e2 => ?_
    · simp only [RE.bind, e2] at q
      exact q F2 O2 H2 _ (s1.trans s2) r2 (.cons (Rep.mono s2.ext p1) p2)
    · simp only [RE.bind, e2] at q
      exact ExcP.from s1 q
    · simp only [RE.bind, e2] at q
      exact q.elim
  · rw [e1] at q; exact q
  · rw [e1] at q; exact q.elim
theorem avr_cons {ka : Kd} {fr : En → RE (List PV)} (hk : ka ≠ .rd) (ha : EV X C ka e fa) (hr : AV X C .rd es fr) (hs : starEach (e :: es) X.env = (false, eval e X.env) :: starEach es X.env := by rfl) : AV X C .rd (e :: es) (aCons fa fr) := by
  refine PA.imp (pa_cons ha hr hs) fun σ H Q ⟨F, O, ρ, r, q⟩ => ?_
  unfold aCons at q
  refine tE.bind r (fun v ρ1 F1 O1 H1 x e1 s1 r1 p1 => ?_) (fun c ρ1 e1 => ?_) fun e1 => ?_
  · rw [e1] at q
    refine tA.bind r1 (fun w ρ2 F2 O2 H2 y e2 s2 r2 p2 => ?_) (fun c ρ2 e2 => ?_) fun e2 => ?_
    · simp only [RE.bind, e2] at q
      exact q F2 O2 H2 _ (s1.trans s2) r2 (.cons (p1.step hk s2) p2)
    · simp only [RE.bind, e2] at q
      exact ExcP.from s1 q
    · simp only [RE.bind, e2] at q
      exact q.elim
  · rw [e1] at q; exact q
  · rw [e1] at q; exact q.elim
theorem avr_late {i : Nat} {x : Str} {px : Pos} {fr : En → RE (List PV)} (hx : PE X (.Name x px) (tVar i)) (hr : AV X C .rd es fr) (hs : starEach (.Name x px :: es) X.env = (false, eval (.Name x px) X.env) :: starEach es X.env := by rfl) : AV X C .rd (.Name x px :: es) (aLate i fr) := by
  refine PA.imp (pa_cons hx hr hs) fun σ H Q ⟨F, O, ρ, r, q⟩ => ?_
  unfold aLate at q
  split at q
  · exact q.elim
  · rename_i p hp
    obtain ⟨v0, h1, _⟩ := r.get hp
    refine ⟨v0, h1, tA.bind r (fun w ρ2 F2 O2 H2 y e2 s2 r2 p2 => ?_) (fun c ρ2 e2 => ?_) fun e2 => ?_⟩
    · simp only [RE.bind, e2] at q
      split at q
      · rename_i v hv
        obtain ⟨v1, h3, h4⟩ := r2.get hv
        rw [h1] at h3; cases h3
        exact q F2 O2 H2 _ s2 r2 (.cons (h4.read (.inl rfl)) p2)
      · rename_i v hv
        obtain ⟨v1, h3, h4⟩ := r2.get hv
        rw [h1] at h3; cases h3
        exact q F2 O2 H2 _ s2 r2 (.cons (h4.read (.inr rfl)) p2)
      · exact q.elim
    · simp only [RE.bind, e2] at q; exact q
    · simp only [RE.bind, e2] at q; exact q.elim
end
/-- a comparison: its answer by the data -/
def OpB (X : Cx) (f : Value → Value → Sem Value) (g : PV → PV → Option Bool) : Prop :=
  OpR X f fun x y H Q => ∃ v w b, Rep X.K H x v ∧ Rep X.K H y w ∧ g v w = some b ∧ Q (.bl b) H
section
variable {X : Cx} {C : Cf} {a b e : Expr} {fa fb : En → RE PV} {f2 : En → RE (PV × PV)} {pos : Pos}
@[simp] def eCmp (g : PV → PV → Option Bool) (f2 : En → RE (PV × PV)) (ρ : En) : RE PV := (f2 ρ).bind fun p ρ1 => match g p.1 p.2 with | some b => .ok (.bool b) ρ1 | none => .bad
@[simp] def bCmp (g : PV → PV → Option Bool) (f2 : En → RE (PV × PV)) (ρ : En) : RE Bool := (f2 ρ).bind fun p ρ1 => match g p.1 p.2 with | some b => .ok b ρ1 | none => .bad
theorem ev_cmp {op : CmpOp} {g : PV → PV → Option Bool} (ho : OpB X (compareOp op) g) (h2 : E2 X C a b f2) (hm : behindInMarks op b = false) : EV X C .sh (.Compare a [op] [b] pos) (eCmp g f2) := by
  obtain ⟨ta, tb, ha, hb, h⟩ := h2
  refine PE.imp (pe_cmpR ho ha hb hm) fun σ H Q ⟨F, O, ρ, r, q⟩ => ?_
  refine h σ H _ ⟨F, O, ρ, r, ?_⟩
  unfold eCmp at q
  cases e : f2 ρ with
  | ok p ρ1 =>
    rw [e] at q
    simp only [RE.bind] at q
    intro F1 O1 H1 x y s1 r1 px py
    cases eg : g p.1 p.2 with
    | none => rw [eg] at q; exact q.elim
    | some bb =>
      rw [eg] at q
      exact ⟨_, _, bb, px.rep r1.sub, py.rep r1.sub, eg, q F1 O1 H1 _ s1 r1 (.bl bb)⟩
  | exc c ρ1 => rw [e] at q; exact q
  | bad => rw [e] at q; exact q
theorem tv_cmp {op : CmpOp} {g : PV → PV → Option Bool} (ho : OpB X (compareOp op) g) (h2 : E2 X C a b f2) (hm : behindInMarks op b = false) : TV X C (.Compare a [op] [b] pos) (bCmp g f2) := by
  obtain ⟨ta, tb, ha, hb, h⟩ := h2
  refine PT.imp (pt_cmpR ho ha hb hm) fun σ H Q ⟨F, O, ρ, r, q⟩ => ?_
  refine h σ H _ ⟨F, O, ρ, r, ?_⟩
  unfold bCmp at q
  cases e : f2 ρ with
  | ok p ρ1 =>
    rw [e] at q
    simp only [RE.bind] at q
    intro F1 O1 H1 x y s1 r1 px py
    cases eg : g p.1 p.2 with
    | none => rw [eg] at q; exact q.elim
    | some bb =>
      rw [eg] at q
      exact ⟨_, _, bb, px.rep r1.sub, py.rep r1.sub, eg, bb, rfl, q F1 O1 H1 s1 r1⟩
  | exc c ρ1 => rw [e] at q; exact q
  | bad => rw [e] at q; exact q
/-- an expression that gives a truth, as a test -/
@[simp] def bVal (f : En → RE PV) (ρ : En) : RE Bool := (f ρ).bind fun v ρ1 => match v with | .bool b => .ok b ρ1 | _ => .bad
theorem tv_val {f : En → RE PV} (h : EV X C .sh e f) (he : ∀ whole, isTrue e X.env whole = (do let v ← whole; standAt e.pos; holding [v] (truthy v)) := by intro _; rfl) : TV X C e (bVal f) := by
  refine PT.imp (pt_val h he) fun σ H Q ⟨F, O, ρ, r, q⟩ => ⟨F, O, ρ, r, ?_⟩
  unfold bVal at q
  cases ef : f ρ with
  | ok v ρ1 =>
    rw [ef] at q
    simp only [RE.bind] at q
    intro F1 O1 H1 x s1 r1 p1
    split at q
    · cases (show Rep X.K F1 x (.bool _) from p1)
      exact ⟨_, rfl, q F1 O1 H1 s1 r1⟩
    · exact q.elim
  | exc c ρ1 => rw [ef] at q; exact q
  | bad => rw [ef] at q; exact q
/-- a value's truth -/
@[simp] def truth : PV → Option Bool
  | .none => some false
  | .bool b => some b
  | .int i => some (i != 0)
  | .list xs => some (!xs.isEmpty)
  | .tuple xs => some (!xs.isEmpty)
  | _ => none
theorem RepA.isEmpty {K : PySem.W.Frag} {H : Hp} {xs : List V} {ds : List PV} : RepA K H xs ds → (!xs.isEmpty) = (!ds.isEmpty)
  | .nil => rfl
  | .cons _ _ => rfl
theorem truV_of {K : PySem.W.Frag} {H : Hp} {x : V} {v : PV} {b : Bool} (r : Rep K H x v) (h : truth v = some b) : TruV K x H b := by
  cases r with
  | non => cases h; rfl
  | bl => cases h; rfl
  | int => cases h; rfl
  | str => cases h
  | lst q t => cases h; exact .inl ⟨_, .of q, t.isEmpty.symm⟩
  | scr => cases h
  | tup q t => cases h; exact .inr (.inl ⟨_, q.sq, t.isEmpty.symm⟩)
  | dK => cases h
@[simp] def bTru (f : En → RE PV) (ρ : En) : RE Bool := (f ρ).bind fun v ρ1 => match truth v with | some b => .ok b ρ1 | none => .bad
theorem tv_tru {f : En → RE PV} (h : EV X C .rd e f) (he : ∀ whole, isTrue e X.env whole = (do let v ← whole; standAt e.pos; holding [v] (truthy v)) := by intro _; rfl) : TV X C e (bTru f) := by
  refine PT.imp (pt_truth h he) fun σ H Q ⟨F, O, ρ, r, q⟩ => ⟨F, O, ρ, r, ?_⟩
  unfold bTru at q
  cases ef : f ρ with
  | ok v ρ1 =>
    rw [ef] at q
    simp only [RE.bind] at q
    intro F1 O1 H1 x s1 r1 p1
    split at q
    · rename_i b hb
      exact ⟨b, truV_of (RepR.rep r1.sub p1) hb, q F1 O1 H1 s1 r1⟩
    · exact q.elim
  | exc c ρ1 => rw [ef] at q; exact q
  | bad => rw [ef] at q; exact q
variable {ga gb : En → RE Bool} {rest : List Expr}
@[simp] def bAnd (ga gb : En → RE Bool) (ρ : En) : RE Bool := (ga ρ).bind fun v ρ1 => if v then gb ρ1 else .ok false ρ1
@[simp] def bOr (ga gb : En → RE Bool) (ρ : En) : RE Bool := (ga ρ).bind fun v ρ1 => if v then .ok true ρ1 else gb ρ1
@[simp] def bNot (ga : En → RE Bool) (ρ : En) : RE Bool := (ga ρ).bind fun v ρ1 => .ok (!v) ρ1
theorem wv_and1 (ha : TV X C a ga) : WV X C (.BoolOp .And [a] pos) ga := pw_and1 ha
theorem wv_or1 (ha : TV X C a ga) : WV X C (.BoolOp .Or [a] pos) ga := pw_or1 ha
theorem wv_and (ha : TV X C a ga) (hb : WV X C (.BoolOp .And (b :: rest) pos) gb) : WV X C (.BoolOp .And (a :: b :: rest) pos) (bAnd ga gb) := by
  refine PW.imp (pw_and ha hb) fun σ H Q ⟨F, O, ρ, r, q⟩ => ?_
  unfold bAnd at q
  refine tB'.bind r (fun v ρ1 F1 O1 H1 e1 s1 r1 => ?_) (fun c ρ1 e1 => ?_) fun e1 => ?_
  · rw [e1] at q
    simp only [RE.bind] at q
    cases v with
    | true => exact ⟨F1, O1, ρ1, r1, PostB.from s1 q⟩
    | false => exact q F1 O1 H1 s1 r1
  · rw [e1] at q; exact q
  · rw [e1] at q; exact q.elim
theorem wv_or (ha : TV X C a ga) (hb : WV X C (.BoolOp .Or (b :: rest) pos) gb) : WV X C (.BoolOp .Or (a :: b :: rest) pos) (bOr ga gb) := by
  refine PW.imp (pw_or ha hb) fun σ H Q ⟨F, O, ρ, r, q⟩ => ?_
  unfold bOr at q
  refine tB'.bind r (fun v ρ1 F1 O1 H1 e1 s1 r1 => ?_) (fun c ρ1 e1 => ?_) fun e1 => ?_
  · rw [e1] at q
    simp only [RE.bind] at q
    cases v with
    | false => exact ⟨F1, O1, ρ1, r1, PostB.from s1 q⟩
    | true => exact q F1 O1 H1 s1 r1
  · rw [e1] at q; exact q
  · rw [e1] at q; exact q.elim
theorem tv_w (h : WV X C e ga) : TV X C e ga := PW.pt h
theorem tv_not (ha : TV X C a ga) : TV X C (.UnaryOp .Not a pos) (bNot ga) := by
  refine PT.imp (pt_not ha) fun σ H Q ⟨F, O, ρ, r, q⟩ => ?_
  unfold bNot at q
  refine tB'.bind r (fun v ρ1 F1 O1 H1 e1 s1 r1 => ?_) (fun c ρ1 e1 => ?_) fun e1 => ?_
  · rw [e1] at q
    exact q F1 O1 H1 s1 r1
  · rw [e1] at q; exact q
  · rw [e1] at q; exact q.elim
/-- .. as values, truths all but the last -/
@[simp] def eAnd (fa fb : En → RE PV) (ρ : En) : RE PV := (fa ρ).bind fun v ρ1 => match v with | .bool true => fb ρ1 | .bool false => .ok (.bool false) ρ1 | _ => .bad
@[simp] def eOr (fa fb : En → RE PV) (ρ : En) : RE PV := (fa ρ).bind fun v ρ1 => match v with | .bool false => fb ρ1 | .bool true => .ok (.bool true) ρ1 | _ => .bad
@[simp] def eNot (fa : En → RE PV) (ρ : En) : RE PV := (fa ρ).bind fun v ρ1 => match v with | .bool b => .ok (.bool (!b)) ρ1 | _ => .bad
theorem ev_one {op : BoolOp} {k : Kd} (h : EV X C k a fa) : EV X C k (.BoolOp op [a] pos) fa := pe_one h
theorem ev_and (ha : EV X C .sh a fa) (hb : EV X C .sh (.BoolOp .And (b :: rest) pos) fb) : EV X C .sh (.BoolOp .And (a :: b :: rest) pos) (eAnd fa fb) := by
  refine PE.imp (pe_and ha hb) fun σ H Q ⟨F, O, ρ, r, q⟩ => ?_
  unfold eAnd at q
  refine tE.bind r (fun v ρ1 F1 O1 H1 x e1 s1 r1 p1 => ?_) (fun c ρ1 e1 => ?_) fun e1 => ?_
  · rw [e1] at q
    simp only [RE.bind] at q
    have p1 : Rep X.K F1 x v := p1
    split at q
    · cases p1; exact ⟨true, rfl, F1, O1, ρ1, r1, PostE.from s1 q⟩
    · cases p1; exact ⟨false, rfl, q F1 O1 H1 _ s1 r1 (.bl false)⟩
    · exact q.elim
  · rw [e1] at q; exact q
  · rw [e1] at q; exact q.elim
theorem ev_not (ha : EV X C .sh a fa) : EV X C .sh (.UnaryOp .Not a pos) (eNot fa) := by
  refine PE.imp (pe_not ha) fun σ H Q ⟨F, O, ρ, r, q⟩ => ?_
  unfold eNot at q
  refine tE.bind r (fun v ρ1 F1 O1 H1 x e1 s1 r1 p1 => ?_) (fun c ρ1 e1 => ?_) fun e1 => ?_
  · rw [e1] at q
    simp only [RE.bind] at q
    have p1 : Rep X.K F1 x v := p1
    split at q
    · cases p1; exact ⟨_, rfl, q F1 O1 H1 _ s1 r1 (.bl _)⟩
    · exact q.elim
  · rw [e1] at q; exact q
  · rw [e1] at q; exact q.elim
/-- a if t else b -/
@[simp] def eIf (gt : En → RE Bool) (fa fb : En → RE PV) (ρ : En) : RE PV := (gt ρ).bind fun v ρ1 => if v then fa ρ1 else fb ρ1
end
section
variable {X : Cx} {C : Cf} {st : Stmt} {sts : List Stmt} {e : Expr} {pos : Pos} {g h : En → SR} {f : En → RE PV}
@[simp] def sNil (ρ : En) : SR := .nx ρ
@[simp] def sSeq (g h : En → SR) (ρ : En) : SR := match g ρ with | .nx ρ1 => h ρ1 | r => r
theorem sv_nil : SVs X C [] sNil := PSs.imp pss_nil fun D σ H ⟨F, O, ρ, r, q⟩ => q F O σ H .refl r
theorem tS.bind {K : PySem.W.Frag} {F H : Hp} {O : Own} {σ : L2.St} {ρ : En} {D' : Ends} (r : Rel K C F O σ H ρ)
    (nx : ∀ ρ1 F1 O1 σ1 H1, g ρ = .nx ρ1 → Step F H O F1 H1 O1 → Rel K C F1 O1 σ1 H1 ρ1 → D'.nx σ1 H1) (oth : (∀ ρ1, g ρ ≠ .nx ρ1) → PostS K C F H O D' σ (g ρ)) : tS K C g D' σ H := by
  refine ⟨F, O, ρ, r, ?_⟩
  cases e : g ρ with
  | nx ρ1 => exact fun F1 O1 σ1 H1 s1 r1 => nx ρ1 F1 O1 σ1 H1 e s1 r1
  | ret v ρ1 => rw [← e]; exact oth fun _ z => by rw [e] at z; cases z
  | bk ρ1 => rw [← e]; exact oth fun _ z => by rw [e] at z; cases z
  | ct ρ1 => rw [← e]; exact oth fun _ z => by rw [e] at z; cases z
  | exc c ρ1 => rw [← e]; exact oth fun _ z => by rw [e] at z; cases z
  | bad => rw [← e]; exact oth fun _ z => by rw [e] at z; cases z
/-- an end that is no next does not hang on nx -/
theorem PostS.nx_irrel {K : PySem.W.Frag} {F H : Hp} {O : Own} {σ : L2.St} {D : Ends} {N : L2.St → Hp → Prop} : ∀ {r : SR}, (∀ ρ1, r ≠ .nx ρ1) → PostS K C F H O D σ r → PostS K C F H O { D with nx := N } σ r
  | .nx _, n, _ => absurd rfl (n _)
  | .ret _ _, _, q => q
  | .bk _, _, q => q
  | .ct _, _, q => q
  | .exc _ _, _, q => q
  | .bad, _, q => q
theorem sv_cons (h1 : SV X C st g) (h2 : SVs X C sts h) : SVs X C (st :: sts) (sSeq g h) := by
  refine PSs.imp (pss_cons h1 h2) fun D σ H ⟨F, O, ρ, r, q⟩ => ?_
  unfold sSeq at q
  refine tS.bind r (fun ρ1 F1 O1 σ1 H1 e1 s1 r1 => ?_) fun n => ?_
  · rw [e1] at q
    exact ⟨F1, O1, ρ1, r1, PostS.from s1 q⟩
  · refine PostS.nx_irrel n ?_
    split at q
    · rename_i e; exact absurd e (n _)
    · exact q
theorem sv_one (h1 : SV X C st g) : SVs X C [st] g := pss_one h1
@[simp] def sBreak (ρ : En) : SR := .bk ρ
@[simp] def sCont (ρ : En) : SR := .ct ρ
@[simp] def RE.toS (r : RE PV) (k : PV → En → SR) : SR := match r with | .ok v ρ => k v ρ | .exc c ρ => .exc c ρ | .bad => .bad
theorem exc_s {K : PySem.W.Frag} {F H : Hp} {O : Own} {σ : L2.St} {D : Ends} {c : Nat} {ρ' : En} (q : PostS K C F H O D σ (.exc c ρ')) : ExcP K C F H O σ c ρ' := fun F' O' H' s' r' => q F' O' σ H' s' r'
@[simp] def sRet (f : En → RE PV) (ρ : En) : SR := (f ρ).toS fun v ρ1 => .ret v ρ1
theorem sv_ret (h : EV X C C.kr e f) : SV X C (.Return (some e) pos) (sRet f) := by
  refine PS.imp (ps_ret h) fun D σ H ⟨F, O, ρ, r, q⟩ => ?_
  unfold sRet at q
  refine tE.bind r (fun v ρ1 F1 O1 H1 x e1 s1 r1 p1 => ?_) (fun c ρ1 e1 => ?_) fun e1 => ?_
  · rw [e1] at q; exact q F1 O1 σ H1 x s1 r1 p1
  · rw [e1] at q; exact exc_s q
  · rw [e1] at q; exact q.elim
@[simp] def sIf (gt : En → RE Bool) (g h : En → SR) (ρ : En) : SR := match gt ρ with | .ok b ρ1 => if b then g ρ1 else h ρ1 | .exc c ρ1 => .exc c ρ1 | .bad => .bad
theorem sv_if {c : Expr} {a b : List Stmt} {gt : En → RE Bool} (hc : TV X C c gt) (ha : SVs X C a g) (hb : SVs X C b h) : SV X C (.If c a b pos) (sIf gt g h) := by
  refine PS.imp (ps_if hc ha hb) fun D σ H ⟨F, O, ρ, r, q⟩ => ?_
  unfold sIf at q
  refine tB'.bind r (fun v ρ1 F1 O1 H1 e1 s1 r1 => ?_) (fun c ρ1 e1 => ?_) fun e1 => ?_
  · rw [e1] at q
    cases v with
    | true => exact ⟨F1, O1, ρ1, r1, PostS.from s1 q⟩
    | false => exact ⟨F1, O1, ρ1, r1, PostS.from s1 q⟩
  · rw [e1] at q; exact exc_s q
  · rw [e1] at q; exact q.elim
/-- name = value -/
@[simp] def sAsg (i : Nat) (f : En → RE PV) (ρ : En) : SR := (f ρ).toS fun v ρ1 => .nx (ρ1.set i (some (.s v)))
@[simp] def sAsgO (i : Nat) (f : En → RE PV) (ρ : En) : SR := (f ρ).toS fun v ρ1 => .nx (ρ1.set i (some (.o v)))
variable {i : Nat} {x : Str} {pos' : Pos}
theorem step_freeO {F H F1 H1 : Hp} {O O1 : Own} (s : Step F H O F1 H1 O1) : Step F H O F1 H1 (freeO O1 i) := s.trans step_free
theorem sv_asg (h : EV X C .sh e f) (hi : i ∉ C.ioS) (hN : X.N.Nodup) (hn : X.N[i]? = some x) (hx : Loc X.env.scope x) (hs : swapsWith e (some (.Name x pos')) pos.line X.env = pure false := by rfl)
    (hf : X.fn x = true ∨ X.env.scope.names.lookup x = some .local := by first | exact .inl rfl | exact .inr rfl | assumption) : SV X C (.Assign [.Name x pos'] e pos) (sAsg i f) := by
  refine PS.imp (ps_set hN hn hx h hs hf) fun D σ H ⟨F, O, ρ, r, q⟩ => ?_
  unfold sAsg at q
  refine tE.bind r (fun v ρ1 F1 O1 H1 y e1 s1 r1 p1 => ?_) (fun c ρ1 e1 => ?_) fun e1 => ?_
  · rw [e1] at q; exact q F1 _ _ H1 (step_freeO s1) (r1.putS hi p1)
  · rw [e1] at q; exact exc_s q
  · rw [e1] at q; exact q.elim
theorem sv_asgO (h : EV X C .fr e f) (hi : i ∉ C.ioS) (hN : X.N.Nodup) (hn : X.N[i]? = some x) (hx : Loc X.env.scope x) (hs : swapsWith e (some (.Name x pos')) pos.line X.env = pure false := by rfl)
    (hf : X.fn x = true ∨ X.env.scope.names.lookup x = some .local := by first | exact .inl rfl | exact .inr rfl | assumption) : SV X C (.Assign [.Name x pos'] e pos) (sAsgO i f) := by
  refine PS.imp (ps_set hN hn hx h hs hf) fun D σ H ⟨F, O, ρ, r, q⟩ => ?_
  unfold sAsgO at q
  refine tE.bind r (fun v ρ1 F1 O1 H1 y e1 s1 r1 p1 => ?_) (fun c ρ1 e1 => ?_) fun e1 => ?_
  · rw [e1] at q
    obtain ⟨a, rfl, fr⟩ := p1
    obtain ⟨s2, r2⟩ := Rel.putO s1 r1 hi fr
    exact q F1 _ _ H1 s2 r2
  · rw [e1] at q; exact exc_s q
  · rw [e1] at q; exact q.elim
/-- an expression alone -/
@[simp] def sExpr (f : En → RE PV) (ρ : En) : SR := (f ρ).toS fun _ ρ1 => .nx ρ1
theorem sv_expr {k : Kd} (h : EV X C k e f) (hs : swapsWith e none pos.line X.env = pure false := by rfl) : SV X C (.Expr e pos) (sExpr f) := by
  refine PS.imp (ps_expr h hs) fun D σ H ⟨F, O, ρ, r, q⟩ => ?_
  unfold sExpr at q
  refine tE.bind r (fun v ρ1 F1 O1 H1 y e1 s1 r1 p1 => ?_) (fun c ρ1 e1 => ?_) fun e1 => ?_
  · rw [e1] at q; exact q F1 O1 σ H1 s1 r1
  · rw [e1] at q; exact exc_s q
  · rw [e1] at q; exact q.elim
/-- while, as often as the fuel lets -/
def sWhile (gt : En → RE Bool) (g : En → SR) : Nat → En → SR
  | 0, _ => .bad
  | n + 1, ρ => match gt ρ with
    | .ok true ρ1 => (match g ρ1 with
      | .nx ρ2 => sWhile gt g n ρ2
      | .ct ρ2 => sWhile gt g n ρ2
      | .bk ρ2 => .nx ρ2
      | r => r)
    | .ok false ρ1 => .nx ρ1
    | .exc c ρ1 => .exc c ρ1
    | .bad => .bad
theorem sv_while {c : Expr} {body : List Stmt} {gt : En → RE Bool} (hp : PassesOwn (model X.prog X.w) X.A X.env X.xe) (hc : TV X C c gt) (hb : SVs X C body g) (n : Nat) : SV X C (.While c body [] pos) (sWhile gt g n) := by
  refine PS.imp (ps_while hp hc hb) fun D σ H ⟨F, O, ρ, r, q⟩ => ?_
  refine ⟨fun m σ1 H1 => ∃ F1 O1 ρ1, Step F H O F1 H1 O1 ∧ Rel X.K C F1 O1 σ1 H1 ρ1 ∧ PostS X.K C F H O D σ (sWhile gt g m ρ1), ⟨n, F, O, ρ, .refl, r, q⟩, ?_⟩
  rintro m σ1 H1 ⟨F1, O1, ρ1, s1, r1, q1⟩
  cases m with
  | zero => exact q1.elim
  | succ m =>
    unfold sWhile at q1
    refine tB'.bind r1 (fun b ρ2 F2 O2 H2 e2 s2 r2 => ?_) (fun c ρ2 e2 => ?_) fun e2 => ?_
    · rw [e2] at q1
      cases b with
      | false => exact q1 F2 O2 σ1 H2 (s1.trans s2) r2
      | true =>
        rw [if_pos rfl]
        refine ⟨fun σ3 H3 => ∃ F3 O3 ρ3, Step F H O F3 H3 O3 ∧ Rel X.K C F3 O3 σ3 H3 ρ3 ∧ PostS X.K C F H O D σ (sWhile gt g m ρ3), fun σ3 H3 z => ⟨m, Nat.lt_succ_self m, z⟩, F2, O2, ρ2, r2, ?_⟩
        simp only at q1
        cases e3 : g ρ2 with
        | nx ρ3 => rw [e3] at q1; exact fun F3 O3 σ3 H3 s3 r3 => ⟨F3, O3, ρ3, (s1.trans s2).trans s3, r3, q1⟩
        | ct ρ3 => rw [e3] at q1; exact fun F3 O3 σ3 H3 s3 r3 => ⟨F3, O3, ρ3, (s1.trans s2).trans s3, r3, q1⟩
        | bk ρ3 => rw [e3] at q1; exact fun F3 O3 σ3 H3 s3 r3 => q1 F3 O3 σ3 H3 ((s1.trans s2).trans s3) r3
        | ret v ρ3 => rw [e3] at q1; exact fun F3 O3 σ3 H3 x s3 r3 p3 => q1 F3 O3 σ3 H3 x ((s1.trans s2).trans s3) r3 (p3.from (s1.trans s2))
        | exc c ρ3 => rw [e3] at q1; exact fun F3 O3 σ3 H3 s3 r3 => q1 F3 O3 σ3 H3 ((s1.trans s2).trans s3) r3
        | bad => rw [e3] at q1; exact q1
    · rw [e2] at q1; exact fun F3 O3 H3 s3 r3 => q1 F3 O3 σ1 H3 (s1.trans s3) r3
    · rw [e2] at q1; exact q1.elim
end
end Fx
namespace Fx
open PySem PySem.Spec PyProof.Rows L2
@[simp] def eOp (g : PV → PV → Option PV) (f2 : En → RE (PV × PV)) (ρ : En) : RE PV := (f2 ρ).bind fun p ρ1 => match g p.1 p.2 with | some u => .ok u ρ1 | none => .bad
/-- what follows a value that was made -/
def Cont (K : PySem.W.Frag) (C : Cf) (k : Kd) (F H : Hp) (O : Own) (σ : L2.St) (ρ : En) (u : PV) (Q : VK) : Prop := ∀ F' O' H' z, Step F H O F' H' O' → Rel K C F' O' σ H' ρ → ValK K k H O F' O' H' z u → Q z H'
/-- the rule r of a two-place operation answers as g says -/
def Ans2 (K : PySem.W.Frag) (k : Kd) (g : PV → PV → Option PV) (r : R2) : Prop :=
  ∀ (C : Cf) (F H : Hp) (O : Own) (σ : L2.St) (ρ : En) (x y : V) (v w u : PV) (Q : VK), Rel K C F O σ H ρ → RepR K F H x v → RepR K F H y w → g v w = some u → Cont K C k F H O σ ρ u Q → r x y H Q
theorem Cont.now {K : PySem.W.Frag} {C : Cf} {F H : Hp} {O : Own} {σ : L2.St} {ρ : En} {u : PV} {Q : VK} {z : V} (c : Cont K C .sh F H O σ ρ u Q) (r : Rel K C F O σ H ρ) (h : Rep K F z u) : Q z H := c F O H z .refl r h
theorem Cont.from {K : PySem.W.Frag} {C : Cf} {k : Kd} {F H F1 H1 : Hp} {O O1 : Own} {σ : L2.St} {ρ : En} {u : PV} {Q : VK} (s : Step F H O F1 H1 O1) (c : Cont K C k F H O σ ρ u Q) : Cont K C k F1 H1 O1 σ ρ u Q :=
  fun F' O' H' z s' r' h => c F' O' H' z (s.trans s') r' (h.from s)
theorem Cont.tup {K : PySem.W.Frag} {C : Cf} {F H : Hp} {O : Own} {σ : L2.St} {ρ : En} {ds : List PV} {Q : VK} {p : Addr} {o : Obj} {xs : List V} (c : Cont K C .sh F H O σ ρ (.tuple ds) Q) (r : Rel K C F O σ H ρ) (n : H p = none) (hd : o.dict = none) (q : RepA K F xs ds) :
    Q (.ref p) (upd H p (.frz o (.tup xs))) := by
  obtain ⟨F', s', r', h'⟩ := r.newTup n hd q
  exact c F' O _ _ s' r' h'
theorem Cont.lst {K : PySem.W.Frag} {C : Cf} {F H : Hp} {O : Own} {σ : L2.St} {ρ : En} {ds : List PV} {Q : VK} {p : Addr} {xs : List V} (c : Cont K C .fr F H O σ ρ (.list ds) Q) (r : Rel K C F O σ H ρ) (n : H p = none) (q : RepA K F xs ds) : Q (.ref p) (upd H p (.lst xs)) := by
  obtain ⟨s', r', h'⟩ := r.newList n q
  exact c F O _ _ s' r' ⟨p, rfl, h'⟩
theorem Cont.share {K : PySem.W.Frag} {C : Cf} {F H : Hp} {O : Own} {σ : L2.St} {ρ : En} {u : PV} {Q : VK} (c : Cont K C .sh F H O σ ρ u Q) : Cont K C .fr F H O σ ρ u Q := fun F' O' H' z s' r' ⟨a, e, f⟩ => by
  subst e
  obtain ⟨F2, s2, r2, h2, _⟩ := f.share s' r'
  exact c F2 O' H' _ s2 r2 h2
section
variable {X : Cx} {C : Cf} {a b e : Expr} {es : List Expr} {fa fb : En → RE PV} {f2 : En → RE (PV × PV)} {pos : Pos} {k : Kd}
theorem ev_op {op : Operator} {g : PV → PV → Option PV} {r : R2} (ho : OpR X (binaryOp op) r) (an : Ans2 X.K k g r) (h2 : E2 X C a b f2) : EV X C k (.BinOp a op b pos) (eOp g f2) := by
  obtain ⟨ta, tb, ha, hb, h⟩ := h2
  refine PE.imp (pe_op ho ha hb) fun σ H Q ⟨F, O, ρ, r, q⟩ => ?_
  refine h σ H _ ⟨F, O, ρ, r, ?_⟩
  unfold eOp at q
  cases ef : f2 ρ with
  | ok p ρ1 =>
    rw [ef] at q
    simp only [RE.bind] at q
    intro F1 O1 H1 x y s1 r1 px py
    cases eg : g p.1 p.2 with
    | none => rw [eg] at q; exact q.elim
    | some u =>
      rw [eg] at q
      exact an C F1 H1 O1 σ ρ1 x y _ _ u Q r1 px py eg fun F' O' H' z s' r' p' => q F' O' H' z (s1.trans s') r' (p'.from s1)
  | exc c ρ1 => rw [ef] at q; exact q
  | bad => rw [ef] at q; exact q
theorem ev_ixr {g : PV → PV → Option PV} {r : R2} (ho : IxR X r) (an : Ans2 X.K k g r) (h2 : E2 X C a b f2) (hs : PlainIx b) : EV X C k (.Subscript a b pos) (eOp g f2) := by
  obtain ⟨ta, tb, ha, hb, h⟩ := h2
  refine PE.imp (pe_ix ho ha hb hs) fun σ H Q ⟨F, O, ρ, r, q⟩ => ?_
  refine h σ H _ ⟨F, O, ρ, r, ?_⟩
  unfold eOp at q
  cases ef : f2 ρ with
  | ok p ρ1 =>
    rw [ef] at q
    simp only [RE.bind] at q
    intro F1 O1 H1 x y s1 r1 px py
    cases eg : g p.1 p.2 with
    | none => rw [eg] at q; exact q.elim
    | some u =>
      rw [eg] at q
      exact an C F1 H1 O1 σ ρ1 x y _ _ u Q r1 px py eg fun F' O' H' z s' r' p' => q F' O' H' z (s1.trans s') r' (p'.from s1)
  | exc c ρ1 => rw [ef] at q; exact q
  | bad => rw [ef] at q; exact q
def lim : Nat := 16777216
@[simp] def addV : PV → PV → Option PV
  | .int i, .int j => some (.int (i + j))
  | .str x, .str y => if x.length + y.length ≤ 16777216 then some (.str (x ++ y)) else none
  | .tuple xs, .tuple ys => if xs.length + ys.length ≤ 16777216 then some (.tuple (xs ++ ys)) else none
  | .list xs, .list ys => if xs.length + ys.length ≤ 16777216 then some (.list (xs ++ ys)) else none
  | _, _ => none
@[simp] def addL : PV → PV → Option PV
  | .list xs, .list ys => if xs.length + ys.length ≤ 16777216 then some (.list (xs ++ ys)) else none
  | _, _ => none
/-- tuple + tuple, the new one's object told -/
def rCatF (K : PySem.W.Frag) : R2 := fun x y H Q => ∃ a b xs ys, x = .ref a ∧ y = .ref b ∧ SqT K H a xs ∧ SqT K H b ys ∧ xs.length + ys.length ≤ sizeLine ∧
  (xs = [] → Q (.ref b) H) ∧ (xs ≠ [] → ys = [] → Q (.ref a) H) ∧ (xs ≠ [] → ys ≠ [] → ∀ p o, H p = none → o.dict = none → Q (.ref p) (upd H p (.frz o (.tup (xs ++ ys)))))
theorem frz_new {P : Program} {w : World} {H : Hp} {h h' : Heap} {its : List Value} {xs : List V} (hz : xs.length ≤ sizeLine) (r : Vals xs its) (e : h'.get? h.objs.size = some { cls := .type "tuple", data := .seq its.toArray }) :
    ObjOk P w H h' h.objs.size (.frz { cls := .type "tuple", data := .seq its.toArray } (.tup xs)) := ⟨e, hz, its, r, _, e, rfl, _, rfl⟩
theorem op_catF : OpR X (binaryOp .Add) (rCatF X.K) := by
  intro pins s σ H x y v u Q I rx ry h
  obtain ⟨a, b, xs, ys, rfl, rfl, ha, hb, hz, q0, q1, q2⟩ := h
  by_cases hx : xs = []
  · refine op_catA pins s σ H _ _ v u Q I rx ry ⟨a, b, xs, ys, rfl, rfl, ha, hb, hz, q0, fun n => absurd hx n, fun n => absurd hx n⟩
  · by_cases hy : ys = []
    · exact op_catA pins s σ H _ _ v u Q I rx ry ⟨a, b, xs, ys, rfl, rfl, ha, hb, hz, fun n => absurd n hx, q1, fun _ n => absurd hy n⟩
    · cases rx
      cases ry
      obtain ⟨i1, r1, p1, _⟩ := I.tuple ha
      obtain ⟨i2, r2, p2, _⟩ := I.tuple hb
      refine HT.cat_tup p1 p2 (fun z => hx (r1.nil_iff.mp z)) (fun z => absurd (r2.nil_iff.mp z) hy) (fun _ => ?_) (by rw [← r1.length, ← r2.length]; exact hz)
      have hl : (xs ++ ys).length ≤ sizeLine := by rw [List.length_append]; exact hz
      exact ⟨.ref s.heap.objs.size, _, I.laid (t' := s.toks) (fun b ob q => Heap.get?_push_of_some _ q) (Nat.le_refl _) (frz_new hl (r1.append r2) (Heap.get?_push_size _ rfl)), rfl, q2 hx hy _ _ (I.hok.fresh (Nat.le_refl _)) rfl⟩
theorem ans_addL : Ans2 X.K .fr addL rCat := by
  intro C F H O σ ρ x y v w u Q r hx hy hg c
  cases v with
  | list xs =>
    cases w with
    | list ys =>
      simp only [addL] at hg
      split at hg
      · rename_i hz
        cases hg
        obtain ⟨a, vs, rfl, ha, qa⟩ := hx.list r.sub
        obtain ⟨b, ws, rfl, hb, qb⟩ := hy.list r.sub
        exact ⟨a, b, vs, ws, rfl, rfl, ha, hb, by rw [qa.length, qb.length, sizeLine_eq]; exact hz, fun p n => c.lst r n (qa.append qb)⟩
      · cases hg
    | _ => cases hg
  | _ => cases hg
theorem ev_addL (h2 : E2 X C a b f2) : EV X C .fr (.BinOp a .Add b pos) (eOp addL f2) := ev_op op_cat ans_addL h2
theorem ans_add : Ans2 X.K .sh addV (fun x y H Q => (rI0 (fun i j => .int (i + j)) x y H Q) ∨ (∃ i j, x = .str i ∧ y = .str j ∧ i.length + j.length ≤ sizeLine ∧ Q (.str (i ++ j)) H) ∨ rCatF X.K x y H Q ∨ rCat x y H Q) := by
  intro C F H O σ ρ x y v w u Q r hx hy hg c
  cases v with
  | int i =>
    cases w with
    | int j => cases hg; exact .inl ⟨i, j, hx.intE, hy.intE, c.now r (.int _)⟩
    | _ => cases hg
  | str i =>
    cases w with
    | str j =>
      simp only [addV] at hg
      split at hg
      · rename_i hz
        cases hg
        exact .inr (.inl ⟨i, j, hx.strE, hy.strE, by rw [sizeLine_eq]; exact hz, c.now r (.str _)⟩)
      · cases hg
    | _ => cases hg
  | tuple xs =>
    cases w with
    | tuple ys =>
      simp only [addV] at hg
      split at hg
      · rename_i hz
        cases hg
        obtain ⟨a, vs, rfl, ha, qa⟩ := hx.tuple r.sub
        obtain ⟨b, ws, rfl, hb, qb⟩ := hy.tuple r.sub
        refine .inr (.inr (.inl ⟨a, b, vs, ws, rfl, rfl, ha.sq, hb.sq, by rw [qa.length, qb.length, sizeLine_eq]; exact hz, fun e => ?_, fun _ e => ?_, fun _ _ p o n hd => c.tup r n hd (qa.append qb)⟩))
        · subst e
          cases qa
          cases hy with
          | s z => exact c.now r z
          | o z => cases z
        · subst e
          cases qb
          rw [List.append_nil] at c
          cases hx with
          | s z => exact c.now r z
          | o z => cases z
      · cases hg
    | _ => cases hg
  | list xs =>
    cases w with
    | list ys => exact .inr (.inr (.inr (ans_addL (X := X) C F H O σ ρ x y _ _ u Q r hx hy hg c.share)))
    | _ => cases hg
  | _ => cases hg
theorem ev_add (h2 : E2 X C a b f2) : EV X C .sh (.BinOp a .Add b pos) (eOp addV f2) := ev_op (op_add.or (op_add_str.or (op_catF.or op_cat))) ans_add h2
@[simp] def subV : PV → PV → Option PV
  | .int i, .int j => some (.int (i - j))
  | _, _ => none
theorem ev_sub (h2 : E2 X C a b f2) : EV X C .sh (.BinOp a .Sub b pos) (eOp subV f2) := ev_op op_sub (by
  intro C F H O σ ρ x y v w u Q r hx hy hg c
  cases v <;> cases w <;> first | (cases hg; done) | skip
  cases hg
  exact ⟨_, _, hx.intE, hy.intE, c.now r (.int _)⟩) h2
/-- a list times an int, a new list -/
@[simp] def mulL : PV → PV → Option PV
  | .list xs, .int k => if -1000000 ≤ k ∧ k ≤ 1000000 ∧ xs.length * k.toNat ≤ 16777216 then some (.list (List.replicate k.toNat xs).flatten) else none
  | _, _ => none
theorem RepA.rep {K : PySem.W.Frag} {F : Hp} {xs : List V} {ds : List PV} (h : RepA K F xs ds) : ∀ n : Nat, RepA K F (List.replicate n xs).flatten (List.replicate n ds).flatten
  | 0 => .nil
  | n + 1 => by
    rw [List.replicate_succ, List.replicate_succ, List.flatten_cons, List.flatten_cons]
    exact h.append (RepA.rep h n)
theorem ans_mulL : Ans2 X.K .fr mulL rRep := by
  intro C F H O σ ρ x y v w u Q r hx hy hg c
  cases v with
  | list xs =>
    cases w with
    | int k =>
      simp only [mulL] at hg
      split at hg
      · rename_i hz
        cases hg
        obtain ⟨a, vs, rfl, ha, qa⟩ := hx.list r.sub
        exact ⟨a, k, vs, rfl, hy.intE, ha, by omega, by omega, by rw [qa.length, sizeLine_eq]; exact hz.2.2, fun p n => c.lst r n (qa.rep k.toNat)⟩
      · cases hg
    | _ => cases hg
  | _ => cases hg
theorem ev_mulL (h2 : E2 X C a b f2) : EV X C .fr (.BinOp a .Mult b pos) (eOp mulL f2) := ev_op op_rep ans_mulL h2
@[simp] def mulV : PV → PV → Option PV
  | .int i, .int j => if (-18446744073709551616 < i ∧ i < 18446744073709551616) ∨ (-18446744073709551616 < j ∧ j < 18446744073709551616) then some (.int (i * j)) else none
  | _, _ => none
theorem ev_mul (h2 : E2 X C a b f2) : EV X C .sh (.BinOp a .Mult b pos) (eOp mulV f2) := ev_op op_mul (by
  intro C F H O σ ρ x y v w u Q r hx hy hg c
  cases v <;> cases w <;> first | (cases hg; done) | skip
  simp only [mulV] at hg
  split at hg
  · rename_i hz
    cases hg
    exact ⟨_, _, hx.intE, hy.intE, hz, c.now r (.int _)⟩
  · cases hg) h2
@[simp] def divV : PV → PV → Option PV
  | .int i, .int j => if 0 < j ∧ j < 18446744073709551616 then some (.int (i / j)) else none
  | _, _ => none
theorem ev_div (h2 : E2 X C a b f2) : EV X C .sh (.BinOp a .FloorDiv b pos) (eOp divV f2) := ev_op op_fdivW (by
  intro C F H O σ ρ x y v w u Q r hx hy hg c
  cases v <;> cases w <;> first | (cases hg; done) | skip
  rename_i i j
  simp only [divV] at hg
  split at hg
  · rename_i hz
    cases hg
    exact ⟨_, _, hx.intE, hy.intE, wide_div (b := 64) hz.1 (by omega) (by decide) (by decide), c.now r (.int _)⟩
  · cases hg) h2
@[simp] def modV : PV → PV → Option PV
  | .int i, .int j => if 0 < j then some (.int (i % j)) else none
  | _, _ => none
theorem ev_mod (h2 : E2 X C a b f2) : EV X C .sh (.BinOp a .Mod b pos) (eOp modV f2) := ev_op op_mod (by
  intro C F H O σ ρ x y v w u Q r hx hy hg c
  cases v <;> cases w <;> first | (cases hg; done) | skip
  simp only [modV] at hg
  split at hg
  · rename_i hz
    cases hg
    exact ⟨_, _, hx.intE, hy.intE, hz, c.now r (.int _)⟩
  · cases hg) h2
@[simp] def powV : PV → PV → Option PV
  | .int i, .int j => if 0 ≤ j ∧ j ≤ 1000 ∧ -1000000 < i ∧ i < 1000000 then some (.int (i ^ j.toNat)) else none
  | _, _ => none
theorem ev_pow (h2 : E2 X C a b f2) : EV X C .sh (.BinOp a .Pow b pos) (eOp powV f2) := ev_op op_pow (by
  intro C F H O σ ρ x y v w u Q r hx hy hg c
  cases v <;> cases w <;> first | (cases hg; done) | skip
  simp only [powV] at hg
  split at hg
  · rename_i hz
    cases hg
    exact ⟨_, _, hx.intE, hy.intE, ⟨hz.1, by omega, by omega⟩, c.now r (.int _)⟩
  · cases hg) h2
/-- -n -/
@[simp] def eNeg (fa : En → RE PV) (ρ : En) : RE PV := (fa ρ).bind fun v ρ1 => match v with | .int i => .ok (.int (-i)) ρ1 | _ => .bad
theorem ev_neg (ha : EV X C .sh a fa) : EV X C .sh (.UnaryOp .USub a pos) (eNeg fa) := by
  refine PE.imp (pe_un un_neg ha) fun σ H Q ⟨F, O, ρ, r, q⟩ => ?_
  unfold eNeg at q
  refine tE.bind r (fun v ρ1 F1 O1 H1 x e1 s1 r1 p1 => ?_) (fun c ρ1 e1 => ?_) fun e1 => ?_
  · rw [e1] at q
    simp only [RE.bind] at q
    have p1 : Rep X.K F1 x v := p1
    split at q
    · cases p1; exact ⟨_, rfl, q F1 O1 H1 _ s1 r1 (.int _)⟩
    · exact q.elim
  · rw [e1] at q; exact q
  · rw [e1] at q; exact q.elim
theorem RepA.atI {K : PySem.W.Frag} {F : Hp} {xs : List V} {ds : List PV} {i : Int} {p : PV} (h : RepA K F xs ds) (e : L2.atI ds i = some p) : ∃ x, L2.atI xs i = some x ∧ Rep K F x p := by
  unfold L2.atI at e ⊢
  rw [h.length]
  cases q : ixN ds.length i with
  | none => rw [q] at e; cases e
  | some j =>
    rw [q] at e
    exact h.get (show ds[j]? = some p from e)
@[simp] def idxV : PV → PV → Option PV
  | .list xs, .int i => L2.atI xs i
  | .tuple xs, .int i => L2.atI xs i
  | .dict [(.none, .list xs)], .int i => L2.atI xs i
  | .str z, .int i => if z.length ≤ 16777216 then (L2.atI z.cps.toList i).map fun c => .str ⟨#[c]⟩ else none
  | _, _ => none
theorem RepR.scrE {K : PySem.W.Frag} {F H : Hp} {v : V} {ds : List PV} (e : Same F H) (h : RepR K F H v (.dict [(.none, .list ds)])) : ∃ a vs, v = .ref a ∧ SqL K H a vs ∧ RepA K F vs ds := by
  generalize hp : PyData.dict [(.none, .list ds)] = p at h
  cases h with
  | s r =>
    cases r with
    | scr q t => cases hp; exact ⟨_, _, rfl, e.seq q, t⟩
    | dK q t =>
      cases hp
      obtain ⟨kk, he⟩ := t.key _ List.mem_cons_self
      cases kk <;> cases he
    | _ => cases hp
  | o r =>
    cases r with
    | lst => cases hp
    | dK q t =>
      cases hp
      obtain ⟨kk, he⟩ := t.key _ List.mem_cons_self
      cases kk <;> cases he
theorem ans_idx : Ans2 X.K .sh idxV (rIx X.K) := by
  intro C F H O σ ρ x y v w u Q r hx hy hg c
  unfold idxV at hg
  split at hg
  · obtain ⟨a, vs, rfl, ha, qa⟩ := hx.list r.sub
    obtain ⟨z, h1, h2⟩ := qa.atI hg
    exact .inl ⟨a, vs, _, z, rfl, hy.intE, .of ha, h1, c.now r h2⟩
  · obtain ⟨a, vs, rfl, ha, qa⟩ := hx.tuple r.sub
    obtain ⟨z, h1, h2⟩ := qa.atI hg
    exact .inr (.inl ⟨a, vs, _, z, rfl, hy.intE, ha.sq, h1, c.now r h2⟩)
  · obtain ⟨a, vs, rfl, ha, qa⟩ := hx.scrE r.sub
    obtain ⟨z, h1, h2⟩ := qa.atI hg
    exact .inl ⟨a, vs, _, z, rfl, hy.intE, ha, h1, c.now r h2⟩
  · split at hg
    · rename_i z i hz
      cases q : L2.atI z.cps.toList i with
      | none => rw [q] at hg; cases hg
      | some cc =>
        rw [q] at hg
        cases hg
        exact .inr (.inr ⟨z, i, cc, hx.strE, hy.intE, by rw [sizeLine_eq]; exact hz, q, c.now r (.str _)⟩)
    · cases hg
  · cases hg
theorem ev_ix (h2 : E2 X C a b f2) (hs : PlainIx b := by exact fun _ _ => rfl) : EV X C .sh (.Subscript a b pos) (eOp idxV f2) := ev_ixr ix_seq ans_idx h2 hs
@[simp] def eTup (fa : En → RE (List PV)) (ρ : En) : RE PV := (fa ρ).bind fun vs ρ1 => if vs.length ≤ 16777216 then .ok (.tuple vs) ρ1 else .bad
@[simp] def eLst (fa : En → RE (List PV)) (ρ : En) : RE PV := (fa ρ).bind fun vs ρ1 => if vs.length ≤ 16777216 then .ok (.list vs) ρ1 else .bad
def tTupF (t : TA) : TE := fun σ H Q => t σ H fun xs H1 => xs.length ≤ sizeLine ∧ ∀ p o, H1 p = none → o.dict = none → Q (.ref p) (upd H1 p (.frz o (.tup xs)))
theorem pe_tupF {x1} {t : TA} (h : PA X es t) : PE X (.Tuple es x1 pos) (tTupF t) := by
  refine ⟨fun pins s σ H Q I hq => ?_⟩
  refine wpAny_Tuple_spliced (thn (h.run pos pins s σ H _ I hq) fun us s1 ⟨xs, H1, I1, r, z, q⟩ => ⟨by rw [← r.length]; exact z, ?_⟩)
  exact ⟨.ref s1.heap.objs.size, _, I1.laid (t' := s1.toks) (fun b u e => Heap.get?_push_of_some _ e) (Nat.le_refl _) (frz_new z r (Heap.get?_push_size _ rfl)), rfl, q _ _ (I1.hok.fresh (Nat.le_refl _)) rfl⟩
theorem ev_tup {x1} {fa : En → RE (List PV)} (h : AV X C .sh es fa) : EV X C .sh (.Tuple es x1 pos) (eTup fa) := by
  refine PE.imp (pe_tupF h) fun σ H Q ⟨F, O, ρ, r, q⟩ => ?_
  unfold eTup at q
  refine tA.bind r (fun v ρ1 F1 O1 H1 x e1 s1 r1 p1 => ?_) (fun c ρ1 e1 => ?_) fun e1 => ?_
  · rw [e1] at q
    simp only [RE.bind] at q
    split at q
    · rename_i hz
      refine ⟨by rw [RepA.length p1, sizeLine_eq]; exact hz, fun p o n hd => ?_⟩
      obtain ⟨F', s', r', h'⟩ := r1.newTup n hd p1
      exact q F' O1 _ _ (s1.trans s') r' h'
    · exact q.elim
  · rw [e1] at q; exact q
  · rw [e1] at q; exact q.elim
theorem ev_lst {fa : En → RE (List PV)} (h : AV X C .sh es fa) : EV X C .fr (.List es pos) (eLst fa) := by
  refine PE.imp (pe_lst h) fun σ H Q ⟨F, O, ρ, r, q⟩ => ?_
  unfold eLst at q
  refine tA.bind r (fun v ρ1 F1 O1 H1 x e1 s1 r1 p1 => ?_) (fun c ρ1 e1 => ?_) fun e1 => ?_
  · rw [e1] at q
    simp only [RE.bind] at q
    split at q
    · rename_i hz
      refine ⟨by rw [RepA.length p1, sizeLine_eq]; exact hz, fun p n => ?_⟩
      obtain ⟨s', r', h'⟩ := r1.newList n p1
      exact q F1 O1 _ _ (s1.trans s') r' ⟨p, rfl, h'.from s1⟩
    · exact q.elim
  · rw [e1] at q; exact q
  · rw [e1] at q; exact q.elim
def AnsA (K : PySem.W.Frag) (k : Kd) (md : Kd) (g : List PV → Option PV) (r : List V → Hp → VK → Prop) : Prop :=
  ∀ (C : Cf) (F H : Hp) (O : Own) (σ : L2.St) (ρ : En) (xs : List V) (vs : List PV) (u : PV) (Q : VK), Rel K C F O σ H ρ → ArgK K md F H xs vs → g vs = some u → Cont K C k F H O σ ρ u Q → r xs H Q
@[simp] def eCal (g : List PV → Option PV) (fa : En → RE (List PV)) (ρ : En) : RE PV := (fa ρ).bind fun vs ρ1 => match g vs with | some u => .ok u ρ1 | none => .bad
theorem call_ans {md : Kd} {g : List PV → Option PV} {r : List V → Hp → VK → Prop} {fa : En → RE (List PV)} (an : AnsA X.K k md g r) {σ : L2.St} {H : Hp} {Q : VK} (h : tE X.K C k (eCal g fa) σ H Q) : tCB r (tA X.K C md fa) σ H Q := by
  obtain ⟨F, O, ρ, r, q⟩ := h
  unfold eCal at q
  refine tA.bind r (fun v ρ1 F1 O1 H1 x e1 s1 r1 p1 => ?_) (fun c ρ1 e1 => ?_) fun e1 => ?_
  · rw [e1] at q
    simp only [RE.bind] at q
    cases eg : g v with
    | none => rw [eg] at q; exact q.elim
    | some u =>
      rw [eg] at q
      exact an C F1 H1 O1 σ ρ1 x v u Q r1 p1 eg fun F' O' H' z s' r' p' => q F' O' H' z (s1.trans s') r' (p'.from s1)
  · rw [e1] at q; exact q
  · rw [e1] at q; exact q.elim
variable {x : Str} {p : Pos}
theorem ev_callB {id : String} {md : Kd} {g : List PV → Option PV} {r : List V → Hp → VK → Prop} {fa : En → RE (List PV)} (hc : CallR X (.builtin id) r) (an : AnsA X.K k md g r) (hg : Gl X x) (hm : X.mg x = none) (hv : bootBuiltins x = some (.builtin id)) (ha : AV X C md (e :: es) fa)
    (hn : x ≠ "__name__" := by decide) (hdb : (x == ("__debug__" : Str)) = false := by decide)
    (he : starEach (e :: es) X.env = (false, eval e X.env) :: starEach es X.env := by rfl) (hpl : (backTo pos (starEach es X.env)).any (·.1) = false := by rfl) : EV X C k (.Call (.Name x p) (e :: es) [] pos) (eCal g fa) :=
  PE.imp (pe_callB hc hg hm hv ha hn hdb he hpl) fun _ _ _ h => call_ans an h
theorem ev_callTy {T : String} {md : Kd} {g : List PV → Option PV} {r : List V → Hp → VK → Prop} {fa : En → RE (List PV)} (hc : CallR X (.type T) r) (an : AnsA X.K k md g r) (hg : Gl X x) (hm : X.mg x = none) (hv : bootBuiltins x = some (.type T)) (ha : AV X C md (e :: es) fa)
    (hn : x ≠ "__name__" := by decide) (hdb : (x == ("__debug__" : Str)) = false := by decide)
    (he : starEach (e :: es) X.env = (false, eval e X.env) :: starEach es X.env := by rfl) (hpl : (backTo pos (starEach es X.env)).any (·.1) = false := by rfl) : EV X C k (.Call (.Name x p) (e :: es) [] pos) (eCal g fa) :=
  PE.imp (pe_callTy hc hg hm hv ha hn hdb he hpl) fun _ _ _ h => call_ans an h
theorem RepRA.one {K : PySem.W.Frag} {F H : Hp} {xs : List V} {v : PV} (h : RepRA K F H xs [v]) : ∃ x, xs = [x] ∧ RepR K F H x v := by
  cases h with | cons a b => cases b; exact ⟨_, rfl, a⟩
theorem RepRA.two {K : PySem.W.Frag} {F H : Hp} {xs : List V} {v w : PV} (h : RepRA K F H xs [v, w]) : ∃ x y, xs = [x, y] ∧ RepR K F H x v ∧ RepR K F H y w := by
  cases h with | cons a b => cases b with | cons b c => cases c; exact ⟨_, _, rfl, a, b⟩
@[simp] def lenV : List PV → Option PV
  | [.list xs] => some (.int xs.length)
  | [.tuple xs] => some (.int xs.length)
  | [.dict [(.none, .list xs)]] => some (.int xs.length)
  | [.str z] => if z.length ≤ 16777216 then some (.int z.length) else none
  | _ => none
theorem ans_len : AnsA X.K .sh .rd lenV (fun xs H Q => ∃ x n, xs = [x] ∧ LenV X.K x H n ∧ Q (.int n) H) := by
  intro C F H O σ ρ xs vs u Q r h hg c
  have h : RepRA X.K F H xs vs := h
  unfold lenV at hg
  split at hg
  · cases hg
    obtain ⟨x, rfl, hx⟩ := h.one
    obtain ⟨a, ws, rfl, ha, qa⟩ := hx.list r.sub
    exact ⟨_, _, rfl, .inl ⟨ws, .of ha, qa.length.symm⟩, c.now r (.int _)⟩
  · cases hg
    obtain ⟨x, rfl, hx⟩ := h.one
    obtain ⟨a, ws, rfl, ha, qa⟩ := hx.tuple r.sub
    exact ⟨_, _, rfl, .inr ⟨ws, ha.sq, qa.length.symm⟩, c.now r (.int _)⟩
  · cases hg
    obtain ⟨x, rfl, hx⟩ := h.one
    obtain ⟨a, ws, rfl, ha, qa⟩ := hx.scrE r.sub
    exact ⟨_, _, rfl, .inl ⟨ws, ha, qa.length.symm⟩, c.now r (.int _)⟩
  · obtain ⟨x, rfl, hx⟩ := h.one
    split at hg
    · rename_i hz
      cases hg
      have e := hx.strE
      subst e
      exact ⟨_, _, rfl, ⟨by rw [sizeLine_eq]; exact hz, rfl⟩, c.now r (.int _)⟩
    · cases hg
  · cases hg
theorem ev_len {fa : En → RE (List PV)} (hg : Gl X "len") (hm : X.mg "len" = none) (ha : AV X C .rd [e] fa)
    (he : starEach [e] X.env = (false, eval e X.env) :: starEach [] X.env := by rfl) : EV X C .sh (.Call (.Name "len" p) [e] [] pos) (eCal lenV fa) := ev_callB call_len ans_len hg hm PySem.boot_len ha (he := he)
@[simp] def absV : List PV → Option PV
  | [.int i] => some (.int (if i < 0 then -i else i))
  | _ => none
theorem ev_abs {fa : En → RE (List PV)} (hg : Gl X "abs") (hm : X.mg "abs" = none) (ha : AV X C .rd [e] fa)
    (he : starEach [e] X.env = (false, eval e X.env) :: starEach [] X.env := by rfl) : EV X C .sh (.Call (.Name "abs" p) [e] [] pos) (eCal absV fa) := ev_callB call_abs (by
  intro C F H O σ ρ xs vs u Q r h hg c
  have h : RepRA X.K F H xs vs := h
  unfold absV at hg
  split at hg
  · cases hg
    obtain ⟨x, rfl, hx⟩ := h.one
    exact ⟨_, by rw [hx.intE], c.now r (.int _)⟩
  · cases hg) hg hm (by decide +kernel) ha (he := he)
@[simp] def max2V : List PV → Option PV
  | [.int i, .int j] => some (.int (if j > i then j else i))
  | _ => none
@[simp] def min2V : List PV → Option PV
  | [.int i, .int j] => some (.int (if j < i then j else i))
  | _ => none
theorem ev_max2 {e2 : Expr} {fa : En → RE (List PV)} (hc : X.calm = true) (hg : Gl X "max") (hm : X.mg "max" = none) (ha : AV X C .rd [e, e2] fa)
    (he : starEach [e, e2] X.env = (false, eval e X.env) :: starEach [e2] X.env := by rfl) (hpl : (backTo pos (starEach [e2] X.env)).any (·.1) = false := by rfl) : EV X C .sh (.Call (.Name "max" p) [e, e2] [] pos) (eCal max2V fa) := ev_callB (call_max2 hc) (by
  intro C F H O σ ρ xs vs u Q r h hg c
  have h : RepRA X.K F H xs vs := h
  unfold max2V at hg
  split at hg
  · cases hg
    obtain ⟨x, y, rfl, hx, hy⟩ := h.two
    exact ⟨_, _, by rw [hx.intE, hy.intE], c.now r (.int _)⟩
  · cases hg) hg hm (by decide +kernel) ha (he := he) (hpl := hpl)
theorem ev_min2 {e2 : Expr} {fa : En → RE (List PV)} (hc : X.calm = true) (hg : Gl X "min") (hm : X.mg "min" = none) (ha : AV X C .rd [e, e2] fa)
    (he : starEach [e, e2] X.env = (false, eval e X.env) :: starEach [e2] X.env := by rfl) (hpl : (backTo pos (starEach [e2] X.env)).any (·.1) = false := by rfl) : EV X C .sh (.Call (.Name "min" p) [e, e2] [] pos) (eCal min2V fa) := ev_callB (call_min2 hc) (by
  intro C F H O σ ρ xs vs u Q r h hg c
  have h : RepRA X.K F H xs vs := h
  unfold min2V at hg
  split at hg
  · cases hg
    obtain ⟨x, y, rfl, hx, hy⟩ := h.two
    exact ⟨_, _, by rw [hx.intE, hy.intE], c.now r (.int _)⟩
  · cases hg) hg hm (by decide +kernel) ha (he := he) (hpl := hpl)
@[simp] def intsOf : List PV → Option (List Int)
  | [] => some []
  | .int i :: r => (intsOf r).map (i :: ·)
  | _ => none
@[simp] def boolsOf : List PV → Option (List Bool)
  | [] => some []
  | .bool i :: r => (boolsOf r).map (i :: ·)
  | _ => none
theorem RepA.ints {K : PySem.W.Frag} {F : Hp} : ∀ {xs : List V} {ds : List PV} {ns : List Int}, RepA K F xs ds → intsOf ds = some ns → xs = ns.map V.int ∧ ds = ns.map PyData.int
  | _, _, ns, .nil, h => by cases h; exact ⟨rfl, rfl⟩
  | _, _, ns, .cons (d := d) (ds := ds) hd hr, h => by
    cases hd with
    | int i =>
      simp only [intsOf] at h
      cases q : intsOf ds with
      | none => rw [q] at h; cases h
      | some ms =>
        rw [q] at h
        cases h
        obtain ⟨e1, e2⟩ := RepA.ints hr q
        exact ⟨by rw [e1, List.map_cons], by rw [e2, List.map_cons]⟩
    | _ => cases h
theorem RepA.bools {K : PySem.W.Frag} {F : Hp} : ∀ {xs : List V} {ds : List PV} {ns : List Bool}, RepA K F xs ds → boolsOf ds = some ns → xs = ns.map V.bl ∧ ds = ns.map PyData.bool
  | _, _, ns, .nil, h => by cases h; exact ⟨rfl, rfl⟩
  | _, _, ns, .cons (d := d) (ds := ds) hd hr, h => by
    cases hd with
    | bl i =>
      simp only [boolsOf] at h
      cases q : boolsOf ds with
      | none => rw [q] at h; cases h
      | some ms =>
        rw [q] at h
        cases h
        obtain ⟨e1, e2⟩ := RepA.bools hr q
        exact ⟨by rw [e1, List.map_cons], by rw [e2, List.map_cons]⟩
    | _ => cases h
@[simp] theorem intsOf_map (ns : List Int) : intsOf (ns.map PyData.int) = some ns := by
  induction ns with
  | nil => rfl
  | cons n r ih => simp [ih]
@[simp] theorem boolsOf_map (ns : List Bool) : boolsOf (ns.map PyData.bool) = some ns := by
  induction ns with
  | nil => rfl
  | cons n r ih => simp [ih]
def allV : List PV → Option PV
  | [.list ds] => (boolsOf ds).map fun bs => .bool (bs.all id)
  | _ => none
def anyV : List PV → Option PV
  | [.list ds] => (boolsOf ds).map fun bs => .bool (bs.any id)
  | _ => none
def sumV : List PV → Option PV
  | [.list ds] => (intsOf ds).map fun ns => .int ns.sum
  | _ => none
def maxI : List Int → Option Int
  | [] => none
  | n :: r => some (r.foldl max n)
def minI : List Int → Option Int
  | [] => none
  | n :: r => some (r.foldl min n)
theorem foldl_max_le : ∀ (r : List Int) (n : Int), n ≤ r.foldl max n ∧ ∀ y ∈ r, y ≤ r.foldl max n
  | [], n => ⟨Int.le_refl _, fun _ h => nomatch h⟩
  | a :: r, n => by
    obtain ⟨h1, h2⟩ := foldl_max_le r (max n a)
    refine ⟨by show n ≤ r.foldl max (max n a); omega, fun y hy => ?_⟩
    rcases List.mem_cons.mp hy with e | hy
    · subst e; show y ≤ r.foldl max (max n y); omega
    · exact h2 y hy
theorem foldl_max_mem : ∀ (r : List Int) (n : Int), r.foldl max n = n ∨ r.foldl max n ∈ r
  | [], n => .inl rfl
  | a :: r, n => by
    rcases foldl_max_mem r (max n a) with h | h
    · show r.foldl max (max n a) = n ∨ r.foldl max (max n a) ∈ a :: r
      rw [h]
      by_cases q : n ≤ a
      · exact .inr (by rw [Int.max_eq_right q]; exact List.mem_cons_self)
      · exact .inl (Int.max_eq_left (by omega))
    · exact .inr (List.mem_cons_of_mem _ h)
theorem foldl_min_le : ∀ (r : List Int) (n : Int), r.foldl min n ≤ n ∧ ∀ y ∈ r, r.foldl min n ≤ y
  | [], n => ⟨Int.le_refl _, fun _ h => nomatch h⟩
  | a :: r, n => by
    obtain ⟨h1, h2⟩ := foldl_min_le r (min n a)
    refine ⟨by show r.foldl min (min n a) ≤ n; omega, fun y hy => ?_⟩
    rcases List.mem_cons.mp hy with e | hy
    · subst e; show r.foldl min (min n y) ≤ y; omega
    · exact h2 y hy
theorem foldl_min_mem : ∀ (r : List Int) (n : Int), r.foldl min n = n ∨ r.foldl min n ∈ r
  | [], n => .inl rfl
  | a :: r, n => by
    rcases foldl_min_mem r (min n a) with h | h
    · show r.foldl min (min n a) = n ∨ r.foldl min (min n a) ∈ a :: r
      rw [h]
      by_cases q : n ≤ a
      · exact .inl (Int.min_eq_left q)
      · exact .inr (by rw [Int.min_eq_right (by omega)]; exact List.mem_cons_self)
    · exact .inr (List.mem_cons_of_mem _ h)
theorem maxI_uniq {ns : List Int} {m m' : Int} (h : maxI ns = some m) (h1 : m' ∈ ns) (h2 : ∀ y ∈ ns, y ≤ m') : m' = m := by
  cases ns with
  | nil => cases h
  | cons n r =>
    cases h
    obtain ⟨a, b⟩ := foldl_max_le r n
    have h3 : r.foldl max n ≤ m' := by
      rcases foldl_max_mem r n with q | q
      · rw [q]; exact h2 n List.mem_cons_self
      · exact h2 _ (List.mem_cons_of_mem _ q)
    rcases List.mem_cons.mp h1 with e | e
    · subst e; omega
    · have := b m' e; omega
theorem minI_uniq {ns : List Int} {m m' : Int} (h : minI ns = some m) (h1 : m' ∈ ns) (h2 : ∀ y ∈ ns, m' ≤ y) : m' = m := by
  cases ns with
  | nil => cases h
  | cons n r =>
    cases h
    obtain ⟨a, b⟩ := foldl_min_le r n
    have h3 : m' ≤ r.foldl min n := by
      rcases foldl_min_mem r n with q | q
      · rw [q]; exact h2 n List.mem_cons_self
      · exact h2 _ (List.mem_cons_of_mem _ q)
    rcases List.mem_cons.mp h1 with e | e
    · subst e; omega
    · have := b m' e; omega
def maxV : List PV → Option PV
  | [.list ds] => ((intsOf ds).bind maxI).map PyData.int
  | _ => none
def minV : List PV → Option PV
  | [.list ds] => ((intsOf ds).bind minI).map PyData.int
  | _ => none
theorem ev_all {fa : En → RE (List PV)} (hc : X.calm = true) (hg : Gl X "all") (hm : X.mg "all" = none) (ha : AV X C .rd [e] fa)
    (he : starEach [e] X.env = (false, eval e X.env) :: starEach [] X.env := by rfl) : EV X C .sh (.Call (.Name "all" p) [e] [] pos) (eCal allV fa) := ev_callB (cr_all hc) (by
  intro C F H O σ ρ xs vs u Q r h hg c
  have h : RepRA X.K F H xs vs := h
  unfold allV at hg
  split at hg
  · rename_i ds _
    cases q : boolsOf ds with
    | none => rw [q] at hg; cases hg
    | some bs =>
      rw [q] at hg
      cases hg
      obtain ⟨x, rfl, hx⟩ := h.one
      obtain ⟨a, ws, rfl, ha, qa⟩ := hx.list r.sub
      obtain ⟨e1, _⟩ := qa.bools q
      subst e1
      exact ⟨a, bs, rfl, .of ha, c.now r (.bl _)⟩
  · cases hg) hg hm (by decide +kernel) ha (he := he)
theorem ev_any {fa : En → RE (List PV)} (hc : X.calm = true) (hg : Gl X "any") (hm : X.mg "any" = none) (ha : AV X C .rd [e] fa)
    (he : starEach [e] X.env = (false, eval e X.env) :: starEach [] X.env := by rfl) : EV X C .sh (.Call (.Name "any" p) [e] [] pos) (eCal anyV fa) := ev_callB (cr_any hc) (by
  intro C F H O σ ρ xs vs u Q r h hg c
  have h : RepRA X.K F H xs vs := h
  unfold anyV at hg
  split at hg
  · rename_i ds _
    cases q : boolsOf ds with
    | none => rw [q] at hg; cases hg
    | some bs =>
      rw [q] at hg
      cases hg
      obtain ⟨x, rfl, hx⟩ := h.one
      obtain ⟨a, ws, rfl, ha, qa⟩ := hx.list r.sub
      obtain ⟨e1, _⟩ := qa.bools q
      subst e1
      exact ⟨a, bs, rfl, .of ha, c.now r (.bl _)⟩
  · cases hg) hg hm (by decide +kernel) ha (he := he)
theorem ev_sum {fa : En → RE (List PV)} (hc : X.calm = true) (hg : Gl X "sum") (hm : X.mg "sum" = none) (ha : AV X C .rd [e] fa)
    (he : starEach [e] X.env = (false, eval e X.env) :: starEach [] X.env := by rfl) : EV X C .sh (.Call (.Name "sum" p) [e] [] pos) (eCal sumV fa) := ev_callB (cr_sum hc) (by
  intro C F H O σ ρ xs vs u Q r h hg c
  have h : RepRA X.K F H xs vs := h
  unfold sumV at hg
  split at hg
  · rename_i ds _
    cases q : intsOf ds with
    | none => rw [q] at hg; cases hg
    | some bs =>
      rw [q] at hg
      cases hg
      obtain ⟨x, rfl, hx⟩ := h.one
      obtain ⟨a, ws, rfl, ha, qa⟩ := hx.list r.sub
      obtain ⟨e1, _⟩ := qa.ints q
      subst e1
      exact ⟨a, bs, rfl, .of ha, c.now r (.int _)⟩
  · cases hg) hg hm (by decide +kernel) ha (he := he)
theorem ev_max {fa : En → RE (List PV)} (hc : X.calm = true) (hg : Gl X "max") (hm : X.mg "max" = none) (ha : AV X C .rd [e] fa)
    (he : starEach [e] X.env = (false, eval e X.env) :: starEach [] X.env := by rfl) : EV X C .sh (.Call (.Name "max" p) [e] [] pos) (eCal maxV fa) := ev_callB (cr_max hc) (by
  intro C F H O σ ρ xs vs u Q r h hg c
  have h : RepRA X.K F H xs vs := h
  unfold maxV at hg
  split at hg
  · rename_i ds _
    cases q : intsOf ds with
    | none => rw [q] at hg; cases hg
    | some ns =>
      rw [q] at hg
      simp only [Option.bind_some] at hg
      cases qm : maxI ns with
      | none => rw [qm] at hg; cases hg
      | some m =>
        rw [qm] at hg
        cases hg
        obtain ⟨x, rfl, hx⟩ := h.one
        obtain ⟨a, ws, rfl, ha, qa⟩ := hx.list r.sub
        obtain ⟨e1, _⟩ := qa.ints q
        subst e1
        refine ⟨a, ns, rfl, .of ha, ?_, fun m' h1 h2 => ?_⟩
        · cases ns with
          | nil => cases qm
          | cons => exact Nat.succ_pos _
        · rw [maxI_uniq qm h1 h2]; exact c.now r (.int _)
  · cases hg) hg hm (by decide +kernel) ha (he := he)
theorem ev_min {fa : En → RE (List PV)} (hc : X.calm = true) (hg : Gl X "min") (hm : X.mg "min" = none) (ha : AV X C .rd [e] fa)
    (he : starEach [e] X.env = (false, eval e X.env) :: starEach [] X.env := by rfl) : EV X C .sh (.Call (.Name "min" p) [e] [] pos) (eCal minV fa) := ev_callB (cr_min hc) (by
  intro C F H O σ ρ xs vs u Q r h hg c
  have h : RepRA X.K F H xs vs := h
  unfold minV at hg
  split at hg
  · rename_i ds _
    cases q : intsOf ds with
    | none => rw [q] at hg; cases hg
    | some ns =>
      rw [q] at hg
      simp only [Option.bind_some] at hg
      cases qm : minI ns with
      | none => rw [qm] at hg; cases hg
      | some m =>
        rw [qm] at hg
        cases hg
        obtain ⟨x, rfl, hx⟩ := h.one
        obtain ⟨a, ws, rfl, ha, qa⟩ := hx.list r.sub
        obtain ⟨e1, _⟩ := qa.ints q
        subst e1
        refine ⟨a, ns, rfl, .of ha, ?_, fun m' h1 h2 => ?_⟩
        · cases ns with
          | nil => cases qm
          | cons => exact Nat.succ_pos _
        · rw [minI_uniq qm h1 h2]; exact c.now r (.int _)
  · cases hg) hg hm (by decide +kernel) ha (he := he)
@[simp] def listV : List PV → Option PV
  | [.list xs] => some (.list xs)
  | [.tuple xs] => some (.list xs)
  | _ => none
theorem ev_list {fa : En → RE (List PV)} (hg : Gl X "list") (hm : X.mg "list" = none) (ha : AV X C .rd [e] fa)
    (he : starEach [e] X.env = (false, eval e X.env) :: starEach [] X.env := by rfl) : EV X C .fr (.Call (.Name "list" p) [e] [] pos) (eCal listV fa) := ev_callTy call_list_of (by
  intro C F H O σ ρ xs vs u Q r h hg c
  have h : RepRA X.K F H xs vs := h
  unfold listV at hg
  split at hg
  · cases hg
    obtain ⟨x, rfl, hx⟩ := h.one
    obtain ⟨a, ws, rfl, ha, qa⟩ := hx.list r.sub
    exact ⟨a, ws, rfl, .inl (.of ha), fun l n => c.lst r n qa⟩
  · cases hg
    obtain ⟨x, rfl, hx⟩ := h.one
    obtain ⟨a, ws, rfl, ha, qa⟩ := hx.tuple r.sub
    exact ⟨a, ws, rfl, .inr ha.sq, fun l n => c.lst r n qa⟩
  · cases hg) hg hm (by decide +kernel) ha (he := he)
theorem call_tuple_f : CallR X (.type "tuple") (fun xs H Q => ∃ p ys, xs = [.ref p] ∧ ((SqL X.K H p ys ∧ ∀ l o, H l = none → o.dict = none → Q (.ref l) (upd H l (.frz o (.tup ys)))) ∨ (SqT X.K H p ys ∧ Q (.ref p) H))) := by
  intro pins s σ H xs us Q I r h
  obtain ⟨p, ys, rfl, h⟩ := h
  rcases h with ⟨hq, q⟩ | ⟨hq, q⟩
  · obtain ⟨u, rfl, rx⟩ := vals1 r
    cases rx
    obtain ⟨its, r', pl, hz⟩ := I.list hq
    have hlen := r'.length
    refine call_tuple_list pl.isList (fun h' kp => ?_) (by simp only [List.size_toArray] <;> omega)
    have I1 : Inv X pins σ H { s with heap := h' } := I.kept (t' := s.toks) kp
    exact ⟨.ref h'.objs.size, _, I1.laid (t' := s.toks) (fun b o e => Heap.get?_push_of_some _ e) (Nat.le_refl _) (frz_new hz r' (Heap.get?_push_size _ rfl)), rfl, q _ _ (I1.hok.fresh (Nat.le_refl _)) rfl⟩
  · exact call_tuple_of pins s σ H _ us Q I r ⟨p, ys, rfl, .inr ⟨hq, q⟩⟩
@[simp] def tupleV : List PV → Option PV
  | [.list xs] => some (.tuple xs)
  | [.tuple xs] => some (.tuple xs)
  | _ => none
theorem ev_tuple {fa : En → RE (List PV)} (hg : Gl X "tuple") (hm : X.mg "tuple" = none) (ha : AV X C .rd [e] fa)
    (he : starEach [e] X.env = (false, eval e X.env) :: starEach [] X.env := by rfl) : EV X C .sh (.Call (.Name "tuple" p) [e] [] pos) (eCal tupleV fa) := ev_callTy call_tuple_f (by
  intro C F H O σ ρ xs vs u Q r h hg c
  have h : RepRA X.K F H xs vs := h
  unfold tupleV at hg
  split at hg
  · cases hg
    obtain ⟨x, rfl, hx⟩ := h.one
    obtain ⟨a, ws, rfl, ha, qa⟩ := hx.list r.sub
    exact ⟨a, ws, rfl, .inl ⟨.of ha, fun l o n hd => c.tup r n hd qa⟩⟩
  · cases hg
    obtain ⟨x, rfl, hx⟩ := h.one
    obtain ⟨a, ws, rfl, ha, qa⟩ := hx.tuple r.sub
    refine ⟨a, ws, rfl, .inr ⟨ha.sq, ?_⟩⟩
    cases hx with
    | s z => exact c.now r z
    | o z => cases z
  · cases hg) hg hm (by decide +kernel) ha (he := he)
end
end Fx
namespace Fx
open PySem PySem.Spec PyProof.Rows L2
mutual
theorem Rep.dp {K : PySem.W.Frag} {H : Hp} : ∀ {v : V} {d : PV}, Rep K H v d → d.canLay0 = true → Dp K H v d
  | _, _, .non, _ => .non
  | _, _, .bl b, _ => .bl b
  | _, _, .int i, _ => .int i
  | _, _, .str x, _ => .str x
  | _, _, .lst h r, e => .lst (.of h) (RepA.dp r (by simpa [PyData.canLay0] using e))
  | _, _, .tup h r, e => .tup h.sq (RepA.dp r (by simpa [PyData.canLay0] using e))
  | _, _, .scr h r, e => by simp [PyData.canLay0] at e
  | _, _, .dK h r, e => by simp [PyData.canLay0] at e
theorem RepA.dp {K : PySem.W.Frag} {H : Hp} : ∀ {v : List V} {d : List PV}, RepA K H v d → PyData.canLayAll0 d = true → DpAll K H v d
  | _, _, .nil, _ => .nil
  | _, _, .cons (d := d) (ds := ds) h r, e => by
    have e' : d.canLay0 = true ∧ PyData.canLayAll0 ds = true := by simpa [PyData.canLayAll0] using e
    exact .cons (Rep.dp h e'.1) (RepA.dp r e'.2)
end
def eqvOk (v w : PV) : Bool := v.canLay0 && w.canLay0 && (decide (v.depth ≤ 64) || decide (w.depth ≤ 64))
/-- == as Python tells it -/
def eqP : PV → PV → Option Bool
  | .int i, .int j => some (i == j)
  | .str x, .str y => some (x == y)
  | .none, .none => some true
  | v, w => if eqvOk v w then some (PyData.eqv v w) else none
def neP (v w : PV) : Option Bool := (eqP v w).map fun b => !b
section
variable {X : Cx} {C : Cf} {a b c e : Expr} {es : List Expr} {fa fb fc : En → RE PV} {f2 : En → RE (PV × PV)} {pos : Pos} {k : Kd}
theorem dp_eq (hu : X.A.units + 64 < cLine) (eq : Bool) : OpR X (compareOp (if eq then .Eq else .NotEq)) (fun x y H Q => ∃ d e, Dp X.K H x d ∧ Dp X.K H y e ∧ eqvOk d e = true ∧ Q (.bl (if eq then PyData.eqv d e else !PyData.eqv d e)) H) := by
  intro pins s σ H x y v u Q I rx ry h
  obtain ⟨d, e, hd, he, ok, q⟩ := h
  obtain ⟨as, r1⟩ := Dp.reads I d x v hd rx
  obtain ⟨bs, r2⟩ := Dp.reads I e y u he ry
  unfold eqvOk at ok
  simp only [Bool.and_eq_true, Bool.or_eq_true, decide_eq_true_eq] at ok
  obtain ⟨⟨l1, l2⟩, dd⟩ := ok
  have room : X.A.units + min d.depth e.depth < cLine := by omega
  cases eq with
  | true => exact SeqAt.compareEq_reads r1 r2 l1 l2 room ⟨.bl _, H, I, rfl, q⟩
  | false => exact SeqAt.compareNe_reads r1 r2 l1 l2 room ⟨.bl _, H, I, rfl, q⟩
theorem OpB.of {f : Value → Value → Sem Value} {g : PV → PV → Option Bool} {r : R2} (h : OpR X f r) (hr : ∀ (H : Hp) (x y : V) (v w : PV) (b : Bool) (Q : VK), Rep X.K H x v → Rep X.K H y w → g v w = some b → Q (.bl b) H → r x y H Q) : OpB X f g := by
  intro pins s σ H x y v u Q I rx ry ⟨p, q, b, h1, h2, e, hq⟩
  exact h pins s σ H x y v u Q I rx ry (hr H x y p q b Q h1 h2 e hq)
theorem ob_eq (hu : X.A.units + 64 < cLine) : OpB X (compareOp .Eq) eqP := .of (op_eq.or (dp_eq hu true)) (by
  intro H x y v w b Q hx hy hg q
  unfold eqP at hg
  split at hg
  · cases hg; cases hx; cases hy; exact .inl ⟨rfl, by rw [dec_int]; exact q⟩
  · cases hg; cases hx; cases hy; exact .inl ⟨rfl, by rw [dec_str]; exact q⟩
  · cases hg; cases hx; cases hy; exact .inl ⟨rfl, by simpa using q⟩
  · split at hg
    · rename_i ok
      cases hg
      have ok' := ok
      unfold eqvOk at ok'
      simp only [Bool.and_eq_true] at ok'
      exact .inr ⟨_, _, hx.dp ok'.1.1, hy.dp ok'.1.2, ok, q⟩
    · cases hg)
theorem ob_ne (hu : X.A.units + 64 < cLine) : OpB X (compareOp .NotEq) neP := .of (op_ne.or (dp_eq hu false)) (by
  intro H x y v w b Q hx hy hg q
  unfold neP eqP at hg
  split at hg
  · cases hg; cases hx; cases hy; exact .inl ⟨rfl, by rw [dec_int]; exact q⟩
  · cases hg; cases hx; cases hy; exact .inl ⟨rfl, by rw [dec_str]; exact q⟩
  · cases hg; cases hx; cases hy; exact .inl ⟨rfl, by simpa using q⟩
  · split at hg
    · rename_i ok
      cases hg
      have ok' := ok
      unfold eqvOk at ok'
      simp only [Bool.and_eq_true] at ok'
      exact .inr ⟨_, _, hx.dp ok'.1.1, hy.dp ok'.1.2, ok, q⟩
    · cases hg)
@[simp] def ltP' : PV → PV → Option Bool
  | .int i, .int j => some (decide (i < j))
  | _, _ => none
@[simp] def leP : PV → PV → Option Bool
  | .int i, .int j => some (decide (i ≤ j))
  | _, _ => none
@[simp] def gtP : PV → PV → Option Bool
  | .int i, .int j => some (decide (j < i))
  | _, _ => none
@[simp] def geP : PV → PV → Option Bool
  | .int i, .int j => some (decide (j ≤ i))
  | _, _ => none
theorem ob_lt : OpB X (compareOp .Lt) ltP' := .of op_lt (by
  intro H x y v w b Q hx hy hg q
  unfold ltP' at hg
  split at hg
  · cases hg; cases hx; cases hy; exact ⟨_, _, rfl, rfl, q⟩
  · cases hg)
theorem ob_le : OpB X (compareOp .LtE) leP := .of op_le (by
  intro H x y v w b Q hx hy hg q
  unfold leP at hg
  split at hg
  · cases hg; cases hx; cases hy; exact ⟨_, _, rfl, rfl, q⟩
  · cases hg)
theorem ob_gt : OpB X (compareOp .Gt) gtP := .of op_gt (by
  intro H x y v w b Q hx hy hg q
  unfold gtP at hg
  split at hg
  · cases hg; cases hx; cases hy; exact ⟨_, _, rfl, rfl, q⟩
  · cases hg)
theorem ob_ge : OpB X (compareOp .GtE) geP := .of op_ge (by
  intro H x y v w b Q hx hy hg q
  unfold geP at hg
  split at hg
  · cases hg; cases hx; cases hy; exact ⟨_, _, rfl, rfl, q⟩
  · cases hg)
theorem dp_inT (hu : X.A.units + 65 < cLine) (neg : Bool) : OpR X (compareOp (if neg then .NotIn else .In)) (fun x y H Q => ∃ d ds, Dp X.K H x d ∧ Dp X.K H y (.tuple ds) ∧ d.canLay0 = true ∧ d.depth ≤ 64 ∧ PyData.canLayAll0 ds = true ∧ Q (.bl (if neg then !ds.any fun z => PyData.eqv z d else ds.any fun z => PyData.eqv z d)) H) := by
  intro pins s σ H x y v u Q I rx ry h
  obtain ⟨d, ds, hd, he, l1, dd, l2, q⟩ := h
  obtain ⟨as, r1⟩ := Dp.reads I d x v hd rx
  obtain ⟨bs, r2⟩ := Dp.reads I (.tuple ds) y u he ry
  have room : X.A.units + 1 + min (PyData.depthAll ds) d.depth < cLine := by omega
  cases neg with
  | false => exact SeqAt.in_tuple_reads r2 r1 l2 l1 room ⟨.bl _, H, I, rfl, q⟩
  | true => exact SeqAt.notIn_tuple_reads r2 r1 l2 l1 room ⟨.bl _, H, I, rfl, q⟩
theorem dp_inL (hu : X.A.units + 65 < cLine) (neg : Bool) : OpR X (compareOp (if neg then .NotIn else .In)) (fun x y H Q => ∃ d ds, Dp X.K H x d ∧ Dp X.K H y (.list ds) ∧ d.canLay0 = true ∧ d.depth ≤ 64 ∧ PyData.canLayAll0 ds = true ∧ Q (.bl (if neg then !ds.any fun z => PyData.eqv z d else ds.any fun z => PyData.eqv z d)) H) := by
  intro pins s σ H x y v u Q I rx ry h
  obtain ⟨d, ds, hd, he, l1, dd, l2, q⟩ := h
  obtain ⟨as, r1⟩ := Dp.reads I d x v hd rx
  obtain ⟨bs, r2⟩ := Dp.reads I (.list ds) y u he ry
  have room : X.A.units + 1 + min (PyData.depthAll ds) d.depth < cLine := by omega
  cases neg with
  | false => exact SeqAt.in_list_reads r2 r1 l2 l1 room ⟨.bl _, H, I, rfl, q⟩
  | true => exact SeqAt.notIn_list_reads r2 r1 l2 l1 room ⟨.bl _, H, I, rfl, q⟩
def inOk (v : PV) (xs : List PV) : Bool := v.canLay0 && decide (v.depth ≤ 64) && PyData.canLayAll0 xs
def inP : PV → PV → Option Bool
  | v, .list xs => if inOk v xs then some (xs.any fun z => PyData.eqv z v) else none
  | v, .tuple xs => if inOk v xs then some (xs.any fun z => PyData.eqv z v) else none
  | .str ⟨⟨[ch]⟩⟩, .str z => some (decide (ch ∈ z.cps.toList))
  | _, _ => none
def niP (v w : PV) : Option Bool := (inP v w).map fun b => !b
theorem ob_in (hu : X.A.units + 65 < cLine) : OpB X (compareOp .In) inP := .of ((dp_inL hu false).or ((dp_inT hu false).or op_in_sign)) (by
  intro H x y v w b Q hx hy hg q
  unfold inP at hg
  split at hg
  · split at hg
    · rename_i ok
      cases hg
      unfold inOk at ok
      simp only [Bool.and_eq_true, decide_eq_true_eq] at ok
      exact .inl ⟨_, _, hx.dp ok.1.1, hy.dp (by simpa [PyData.canLay0] using ok.2), ok.1.1, ok.1.2, ok.2, q⟩
    · cases hg
  · split at hg
    · rename_i ok
      cases hg
      unfold inOk at ok
      simp only [Bool.and_eq_true, decide_eq_true_eq] at ok
      exact .inr (.inl ⟨_, _, hx.dp ok.1.1, hy.dp (by simpa [PyData.canLay0] using ok.2), ok.1.1, ok.1.2, ok.2, q⟩)
    · cases hg
  · cases hg
    cases hx
    cases hy
    exact .inr (.inr ⟨_, _, rfl, rfl, q⟩)
  · cases hg)
theorem ob_ni (hu : X.A.units + 65 < cLine) : OpB X (compareOp .NotIn) niP := .of ((dp_inL hu true).or ((dp_inT hu true).or op_notIn_sign)) (by
  intro H x y v w b Q hx hy hg q
  unfold niP inP at hg
  split at hg
  · split at hg
    · rename_i ok
      cases hg
      unfold inOk at ok
      simp only [Bool.and_eq_true, decide_eq_true_eq] at ok
      exact .inl ⟨_, _, hx.dp ok.1.1, hy.dp (by simpa [PyData.canLay0] using ok.2), ok.1.1, ok.1.2, ok.2, q⟩
    · cases hg
  · split at hg
    · rename_i ok
      cases hg
      unfold inOk at ok
      simp only [Bool.and_eq_true, decide_eq_true_eq] at ok
      exact .inr (.inl ⟨_, _, hx.dp ok.1.1, hy.dp (by simpa [PyData.canLay0] using ok.2), ok.1.1, ok.1.2, ok.2, q⟩)
    · cases hg
  · cases hg
    cases hx
    cases hy
    exact .inr (.inr ⟨_, _, rfl, rfl, q⟩)
  · cases hg)
@[simp] def isNone : PV → Bool
  | .none => true
  | _ => false
@[simp] def isP : PV → PV → Option Bool
  | .bool a, .bool b => some (a == b)
  | v, .none => some (isNone v)
  | _, _ => none
@[simp] def isnP : PV → PV → Option Bool
  | .bool a, .bool b => some (!(a == b))
  | v, .none => some (!isNone v)
  | _, _ => none
theorem Rep.isNone {K : PySem.W.Frag} {H : Hp} {x : V} {v : PV} (h : Rep K H x v) : decide (x = .non) = Fx.isNone v := by
  cases h <;> simp [Fx.isNone]
theorem ob_is : OpB X (compareOp .Is) isP := .of (op_isN.or op_isBl) (by
  intro H x y v w b Q hx hy hg q
  unfold isP at hg
  split at hg
  · cases hg; cases hx; cases hy; exact .inr ⟨_, _, rfl, rfl, by rw [show decide (_ = _) = (_ == _) from (Bool.beq_eq_decide_eq _ _).symm]; exact q⟩
  · cases hg; cases hy; exact .inl ⟨rfl, by rw [hx.isNone]; exact q⟩
  · cases hg)
@[simp] def eChn (g g' : PV → PV → Option Bool) (fa fb fc : En → RE PV) (ρ : En) : RE PV := (fa ρ).bind fun v ρ1 => (fb ρ1).bind fun w ρ2 => match g v w with
  | some true => (fc ρ2).bind fun u ρ3 => match g' w u with | some b => .ok (.bool b) ρ3 | none => .bad
  | some false => .ok (.bool false) ρ2
  | none => .bad
theorem ev_chn {op op' : CmpOp} {g g' : PV → PV → Option Bool} (ho : OpB X (compareOp op) g) (ho' : OpB X (compareOp op') g') (ha : EV X C .sh a fa) (hb : EV X C .sh b fb) (hc : EV X C .sh c fc)
    (hm : lastMarks [op, op'] [b, c] = false := by with_unfolding_all rfl) : EV X C .sh (.Compare a [op, op'] [b, c] pos) (eChn g g' fa fb fc) := by
  refine PE.imp (pe_chain ho ho' ha hb hc hm) fun σ H Q ⟨F, O, ρ, r, q⟩ => ?_
  unfold eChn at q
  refine tE.bind r (fun v ρ1 F1 O1 H1 x e1 s1 r1 p1 => ?_) (fun c ρ1 e1 => ?_) fun e1 => ?_
  · rw [e1] at q
    refine tE.bind r1 (fun w ρ2 F2 O2 H2 y e2 s2 r2 p2 => ?_) (fun c ρ2 e2 => ?_) fun e2 => ?_
    · simp only [RE.bind, e2] at q
      have p1 : Rep X.K F1 x v := p1
      have p2 : Rep X.K F2 y w := p2
      cases hg : g v w with
      | none => rw [hg] at q; exact q.elim
      | some b1 =>
        rw [hg] at q
        refine ⟨v, w, b1, Rep.mono (s2.ext.trans r2.sub) p1, Rep.mono r2.sub p2, hg, b1, rfl, ?_⟩
        cases b1 with
        | false => exact q F2 O2 H2 _ (s1.trans s2) r2 (.bl false)
        | true =>
          refine tE.bind r2 (fun u ρ3 F3 O3 H3 z e3 s3 r3 p3 => ?_) (fun c ρ3 e3 => ?_) fun e3 => ?_
          · simp only [RE.bind, e3] at q
            have p3 : Rep X.K F3 z u := p3
            cases hg' : g' w u with
            | none => rw [hg'] at q; exact q.elim
            | some b2 =>
              rw [hg'] at q
              exact ⟨w, u, b2, Rep.mono (s3.ext.trans r3.sub) p2, Rep.mono r3.sub p3, hg', q F3 O3 H3 _ ((s1.trans s2).trans s3) r3 (.bl b2)⟩
          · simp only [RE.bind, e3] at q
            exact ExcP.from (s1.trans s2) q
          · simp only [RE.bind, e3] at q
            exact q.elim
    · simp only [RE.bind, e2] at q
      exact ExcP.from s1 q
    · simp only [RE.bind, e2] at q
      exact q.elim
  · rw [e1] at q; exact q
  · rw [e1] at q; exact q.elim
@[simp] def bChn (g g' : PV → PV → Option Bool) (fa fb fc : En → RE PV) (ρ : En) : RE Bool := (fa ρ).bind fun v ρ1 => (fb ρ1).bind fun w ρ2 => match g v w with
  | some true => (fc ρ2).bind fun u ρ3 => match g' w u with | some b => .ok b ρ3 | none => .bad
  | some false => .ok false ρ2
  | none => .bad
def tyName : PV → Option String
  | .none => some "NoneType"
  | .bool _ => some "bool"
  | .int _ => some "int"
  | .str _ => some "str"
  | .list _ => some "list"
  | .tuple _ => some "tuple"
  | .dict [(.none, .list _)] => none
  | .dict _ => some "dict"
theorem tyX_of {K : PySem.W.Frag} {H : Hp} {x : V} {v : PV} {n : String} (h : Rep K H x v) (e : tyName v = some n) : TyX K H x (.type n) := by
  cases h with
  | non => cases e; exact .base .non
  | bl => cases e; exact .base (.bl _)
  | int => cases e; exact .base (.int _)
  | str => cases e; exact .base (.str _)
  | lst h _ => cases e; exact .base (.lst h)
  | tup h _ =>
    cases e
    rcases h with ⟨o, h, _⟩ | ⟨o, its, n, h, c, _⟩
    · exact .fTuple h
    · exact .kTuple h c
  | scr => cases e
  | dK h t =>
    have e' : n = "dict" := by
      unfold tyName at e
      split at e
      all_goals first | (cases e; done) | (cases e; rfl) | exact absurd ‹PyData.dict _ = _› (by simp)
    subst e'
    exact .base (.dK h)
def isiP (T : String) (v : PV) : Option Bool := (tyName v).bind fun n => kitB n T
@[simp] def eIsi (T : String) (fa : En → RE PV) (ρ : En) : RE PV := (fa ρ).bind fun v ρ1 => match isiP T v with | some b => .ok (.bool b) ρ1 | none => .bad
theorem ev_isi {T : String} {nx : Str} {p p1 : Pos} (hg : Gl X "isinstance") (hm : X.mg "isinstance" = none) (ha : EV X C .rd e fa) (gT : Gl X nx) (mT : X.mg nx = none) (bT : bootBuiltins nx = some (.type T))
    (hn : nx ≠ "__name__" := by decide) (hd : (nx == ("__debug__" : Str)) = false := by decide)
    (he : starEach [e, .Name nx p1] X.env = (false, eval e X.env) :: starEach [.Name nx p1] X.env := by rfl) (hpl : (backTo pos (starEach [.Name nx p1] X.env)).any (·.1) = false := by rfl)
    (hs : starEach [.Name nx p1] X.env = (false, eval (.Name nx p1) X.env) :: starEach [] X.env := by rfl) : EV X C .sh (.Call (.Name "isinstance" p) [e, .Name nx p1] [] pos) (eIsi T fa) := by
  refine PE.imp (pe_callB call_isi hg hm (by decide +kernel) (pa_cons ha (pa_cons (pe_bltn (v := .ty T) gT mT bT rfl hn hd) pa_nil hs) he) (by decide) (by decide) he hpl) fun σ H Q ⟨F, O, ρ, r, q⟩ => ?_
  unfold eIsi at q
  refine tE.bind r (fun v ρ1 F1 O1 H1 x e1 s1 r1 p1 => ?_) (fun c ρ1 e1 => ?_) fun e1 => ?_
  · rw [e1] at q
    simp only [RE.bind] at q
    cases hi : isiP T v with
    | none => rw [hi] at q; exact q.elim
    | some bb =>
      rw [hi] at q
      unfold isiP at hi
      cases hn : tyName v with
      | none => rw [hn] at hi; cases hi
      | some n =>
        rw [hn] at hi
        exact ⟨x, _, _, _, bb, rfl, .ty T, tyX_of (RepR.rep r1.sub p1) hn, kit_ty hi, q F1 O1 H1 _ s1 r1 (.bl bb)⟩
  · rw [e1] at q; exact q
  · rw [e1] at q; exact q.elim
def isTL (v : PV) : Option Bool := match v with
  | .list _ | .tuple _ => some true
  | .dict _ => none
  | _ => some false
@[simp] def eIsTL (fa : En → RE PV) (ρ : En) : RE PV := (fa ρ).bind fun v ρ1 => match isTL v with | some b => .ok (.bool b) ρ1 | none => .bad
end
end Fx
namespace Fx
open PySem PySem.Spec PyProof.Rows L2
inductive Tg where
  | n (i : Nat) | t (is : List Nat)
@[simp] def Tg.slots : Tg → List Nat
  | .n i => [i]
  | .t is => is
@[simp] def putAll : List Nat → List PV → En → Option En
  | [], [], ρ => some ρ
  | i :: is, v :: vs, ρ => putAll is vs (ρ.set i (some (.s v)))
  | _, _, _ => none
@[simp] def Tg.put : Tg → PV → En → Option En
  | .n i, v, ρ => some (ρ.set i (some (.s v)))
  | .t is, .tuple vs, ρ => putAll is vs ρ
  | .t is, .list vs, ρ => putAll is vs ρ
  | .t _, _, _ => none
@[simp] def gNames : List Nat → TGs
  | [] => gNil
  | i :: is => gCons (gName i) (gNames is)
@[simp] def gTg (K : PySem.W.Frag) : Tg → TG
  | .n i => gName i
  | .t is => fun v σ H Q => gTup K is.length (gNames is) v σ H Q ∨ gLst K is.length (gNames is) v σ H Q
def GV (X : Cx) (tg : Expr) (t : Tg) : Prop := PG X tg (gTg X.K t)
/-- an item that is walked: shared, or a tuple that was just laid -/
inductive RepY (K : PySem.W.Frag) (F H : Hp) : V → PV → Prop
  | s {v : V} {p : PV} : Rep K F v p → RepY K F H v p
  | t {a : Addr} {xs : List V} {ds : List PV} : SqT K H a xs → RepA K F xs ds → RepY K F H (.ref a) (.tuple ds)
section
variable {X : Cx} {pos : Pos} {i : Nat} {x : Str}
theorem gv_n (hN : X.N.Nodup) (hi : X.N[i]? = some x) (hx : Loc X.env.scope x) (hf : X.fn x = true ∨ X.env.scope.names.lookup x = some .local := by first | exact .inl rfl | exact .inr rfl | assumption) : GV X (.Name x pos) (.n i) := pg_name hN hi hx hf
theorem gv_t {es : List Expr} {kk : Nat} {is : List Nat} (hc : X.calm = true) (h : PGs X es (gNames is)) (hn : (assignEach es X.env).length = is.length := by rfl) (hst : (assignEach es X.env).findIdx? (·.1) = none := by rfl) : GV X (.Tuple es kk pos) (.t is) := by
  refine ⟨fun pins s σ H v u Q I r hw => ?_⟩
  rcases hw with hw | hw
  · exact (pg_tup hc h hn hst).run pins s σ H v u Q I r hw
  · exact (pg_lst hc h hn hst).run pins s σ H v u Q I r hw
end
theorem wipe_set {σ : L2.St} {i : Nat} {x : Option V} : ∀ {vs : List Nat}, i ∈ vs → wipe (σ.set i x) vs = wipe σ vs
  | [], h => nomatch h
  | v :: vs, h => by
    by_cases e : i = v
    · subst e
      unfold wipe
      by_cases q : i ∈ vs
      · rw [wipe_set q]
      · have : ∀ (τ : L2.St) (ws : List Nat), i ∉ ws → wipe (τ.set i x) ws = (wipe τ ws).set i x := fun τ ws => by
          induction ws with
          | nil => intro _; rfl
          | cons w ws ih =>
            intro hn
            unfold wipe
            rw [ih fun z => hn (List.mem_cons_of_mem _ z), List.set_comm _ _ (fun z => hn (by rw [z]; exact List.mem_cons_self))]
        rw [this σ vs q, List.set_set]
    · unfold wipe
      rw [wipe_set ((List.mem_cons.mp h).resolve_left e)]
section
variable {K : PySem.W.Frag} {C : Cf} {F H : Hp} {O : Own} {σ : L2.St} {ρ ρ' : En}
theorem putAll_ok (ws : List Nat) : ∀ {vs : List V} {ds : List PV}, RepA K F vs ds → ∀ {is : List Nat} {σ : L2.St} {O : Own} {ρ ρ' : En} {Q : L2.St → Hp → Prop}, Rel K C F O σ H ρ → putAll is ds ρ = some ρ' → (∀ i ∈ is, i ∉ C.ioS) →
    (∀ σ' O', Step F H O F H O' → Rel K C F O' σ' H ρ' → ((∀ i ∈ is, i ∈ ws) → wipe σ' ws = wipe σ ws) → Q σ' H) → gNames is vs σ H Q
  | _, _, .nil, [], σ, O, _, _, _, r, h, hi, c => by cases h; exact ⟨rfl, c σ O .refl r fun _ => rfl⟩
  | _, _, .nil, _ :: _, _, _, _, _, _, _, h, _, _ => by cases h
  | _, _, .cons _ _, [], _, _, _, _, _, _, h, _, _ => by cases h
  | _, _, .cons hd hr, i :: is, σ, O, ρ, ρ', Q, r, h, hi, c => by
    refine ⟨_, _, rfl, ?_⟩
    refine putAll_ok ws hr (r.putS (hi i List.mem_cons_self) hd) h (fun j hj => hi j (List.mem_cons_of_mem _ hj)) fun σ' O' s' r' w' => c σ' O' (step_free.trans s') r' fun hw => ?_
    rw [w' fun j hj => hw j (List.mem_cons_of_mem _ hj), wipe_set (hw i List.mem_cons_self)]
theorem putAll_len : ∀ {is : List Nat} {ds : List PV} {ρ ρ' : En}, putAll is ds ρ = some ρ' → ds.length = is.length
  | [], [], _, _, _ => rfl
  | [], _ :: _, _, _, h => by cases h
  | _ :: _, [], _, _, h => by cases h
  | i :: is, v :: vs, ρ, ρ', h => congrArg (· + 1) (putAll_len (is := is) (ds := vs) h)
theorem tg_put {t : Tg} {x : V} {p : PV} (ws : List Nat) {Q : L2.St → Hp → Prop} (r : Rel K C F O σ H ρ) (y : RepY K F H x p) (yt : ∀ i, t = .n i → Rep K F x p) (h : t.put p ρ = some ρ') (hi : ∀ i ∈ t.slots, i ∉ C.ioS)
    (c : ∀ σ' O', Step F H O F H O' → Rel K C F O' σ' H ρ' → ((∀ i ∈ t.slots, i ∈ ws) → wipe σ' ws = wipe σ ws) → Q σ' H) : gTg K t x σ H Q := by
  cases t with
  | n i =>
    cases h
    exact c _ _ step_free (r.putS (hi i (List.mem_singleton.mpr rfl)) (yt i rfl)) fun hw => wipe_set (hw i (List.mem_singleton.mpr rfl))
  | t is =>
    have tup : ∀ a vs ds, x = .ref a → p = .tuple ds → SqT K H a vs → RepA K F vs ds → gTg K (.t is) x σ H Q := fun a vs ds ex ep hs hr => by
      subst ep
      exact .inl ⟨a, vs, ex, hs, by rw [hr.length]; exact putAll_len h, putAll_ok ws hr r h hi c⟩
    cases y with
    | s y =>
      cases p with
      | tuple ds => cases y with | tup hs hr => exact tup _ _ _ rfl rfl ((hs.mono r.sub).sq) hr
      | list ds => cases y with | lst hs hr => exact .inr ⟨_, _, rfl, .of (r.sub _ _ hs), by rw [hr.length]; exact putAll_len h, putAll_ok ws hr r h hi c⟩
      | _ => cases h
    | t hs hr => exact tup _ _ _ rfl rfl hs hr
end
theorem wipe_sub {σ : L2.St} {vs : List Nat} : ∀ {us : List Nat}, (∀ i ∈ us, i ∈ vs) → wipe (wipe σ us) vs = wipe σ vs
  | [], _ => rfl
  | u :: us, h => by
    show wipe ((wipe σ us).set u none) vs = wipe σ vs
    rw [wipe_set (h u List.mem_cons_self), wipe_sub fun i hi => h i (List.mem_cons_of_mem _ hi)]
theorem wipe_idem {σ : L2.St} {vs : List Nat} : wipe (wipe σ vs) vs = wipe σ vs := wipe_sub fun _ h => h
/-- over F the iterator yields just these items -/
structure ItOk (K : PySem.W.Frag) (F : Hp) (tg : Tg) (J : It) (xs : List PV) : Prop where
  go : ∀ H i, Same F H → i < xs.length → J.go i H
  stop : ∀ H i, Same F H → xs.length ≤ i → J.stop i H
  yld : ∀ H i x H' p, Same F H → J.yld i H x H' → xs[i]? = some p → (H' = H ∨ ∃ T o, H T = none ∧ H' = upd H T o) ∧ RepY K F H' x p ∧ (∀ j, tg = .n j → Rep K F x p)
theorem ItOk.mono {K : PySem.W.Frag} {F F' : Hp} {tg : Tg} {J : It} {xs : List PV} (e : Same F F') (h : ItOk K F tg J xs) : ItOk K F' tg J xs :=
  ⟨fun H i s => h.go H i (e.trans s), fun H i s => h.stop H i (e.trans s), fun H i x H' p s y q => by
    obtain ⟨a, b, c⟩ := h.yld H i x H' p (e.trans s) y q
    refine ⟨a, ?_, fun j z => (c j z).mono e⟩
    cases b with
    | s z => exact .s (z.mono e)
    | t z w => exact .t z (w.mono e)⟩
def PostI (K : PySem.W.Frag) (C : Cf) (tg : Tg) (F H : Hp) (O : Own) (σ : L2.St) (R : It → Hp → Prop) : RE (List PV) → Prop
  | .ok xs ρ' => ∀ F' O' H' J, Step F H O F' H' O' → Rel K C F' O' σ H' ρ' → ItOk K F' tg J xs → R J H'
  | .exc c ρ' => ExcP K C F H O σ c ρ'
  | .bad => False
def tI (K : PySem.W.Frag) (C : Cf) (tg : Tg) (f : En → RE (List PV)) : TI := fun σ H R => ∃ F O ρ, Rel K C F O σ H ρ ∧ PostI K C tg F H O σ R (f ρ)
def IV (X : Cx) (C : Cf) (tx : Expr) (tg : Tg) (iter : Expr) (f : En → RE (List PV)) : Prop := PI X tx iter (tI X.K C tg f)
theorem PI.imp {X : Cx} {tx iter : Expr} {t t' : TI} (h : PI X tx iter t) (w : ∀ σ H R, t' σ H R → t σ H R) : PI X tx iter t' := ⟨fun pins s σ H R I q => h.run pins s σ H R I (w _ _ _ q)⟩
section
variable {X : Cx} {C : Cf} {tx e : Expr} {tg : Tg} {fa : En → RE PV} {pos p : Pos}
/-- a list or a tuple, by what comes -/
theorem pi_seq {l : Expr} {tl : TE} (hl : PE X l tl) : PI X tx l (fun σ H R => tl σ H fun x H1 => ∃ a, x = .ref a ∧ (((∃ xs, SqL X.K H1 a xs) ∧ R (Itl X.K a) H1) ∨ ((∃ xs, SqT X.K H1 a xs) ∧ R (Itt X.K a) H1))) := by
  refine ⟨fun pins s σ H R I h => thn (hl.run pins s σ H _ I h) fun v s1 ⟨x, H1, I1, r1, a, e, q1⟩ => ?_⟩
  subst e
  cases r1
  have kp : ∀ o, Inv X pins σ H1 { s1 with heap := s1.heap.push o } := fun o => I1.kept (t' := s1.toks) fun b u e => Heap.get?_push_of_some _ e
  have fp : ∀ b ∈ [s1.heap.objs.size], FpOk X pins H1 b := fun b hb => by
    rw [show b = s1.heap.objs.size by simpa using hb]
    exact I1.fpOk (Nat.le_refl _) (I1.hok.fresh (Nat.le_refl _))
  rcases q1 with ⟨⟨xs, hq⟩, q⟩ | ⟨⟨xs, hq⟩, q⟩
  · obtain ⟨its, rv, pl, hz⟩ := I1.list hq
    exact wpAny_pyIter_list pl.isList ⟨_, _, _, _, H1, rfl, kp _, turn_list a _, ⟨_, Heap.get?_push_size _ rfl, rfl, rfl⟩, fp, q⟩
  · obtain ⟨its, rv, pl, hz⟩ := I1.tuple hq
    exact wpAny_pyIter_tuple (show s1.heap.IsTuple a its.toArray from pl) ⟨_, _, _, _, H1, rfl, kp _, turn_tuple a _, ⟨_, Heap.get?_push_size _ rfl, rfl, rfl⟩, fp, q⟩
theorem itOk_list {K : PySem.W.Frag} {F : Hp} {a : Addr} {vs : List V} {xs : List PV} (hs : SqL K F a vs) (hr : RepA K F vs xs) : ItOk K F tg (Itl K a) xs :=
  ⟨fun H i s h => by
    obtain ⟨x, hx, _⟩ := hr.get (List.getElem?_eq_getElem h)
    exact ⟨vs, x, s.seq hs, hx⟩, fun H i s h => ⟨vs, s.seq hs, by rw [hr.length]; exact h⟩, fun H i x H' p s y q => by
    obtain ⟨e, y⟩ := y
    obtain ⟨z, hz, hq⟩ := hr.get q
    have e2 := (y vs (s.seq hs)).symm.trans hz
    cases e2
    exact ⟨.inl e, .s hq, fun _ _ => hq⟩⟩
theorem itOk_tup {K : PySem.W.Frag} {F : Hp} {a : Addr} {vs : List V} {xs : List PV} (hs : SqT K F a vs) (hr : RepA K F vs xs) : ItOk K F tg (Itt K a) xs :=
  ⟨fun H i s h => by
    obtain ⟨x, hx, _⟩ := hr.get (List.getElem?_eq_getElem h)
    exact ⟨vs, x, same_sqT s hs, hx⟩, fun H i s h => ⟨vs, same_sqT s hs, by rw [hr.length]; exact h⟩, fun H i x H' p s y q => by
    obtain ⟨e, y⟩ := y
    obtain ⟨z, hz, hq⟩ := hr.get q
    have e2 := (y vs (same_sqT s hs)).symm.trans hz
    cases e2
    exact ⟨.inl e, .s hq, fun _ _ => hq⟩⟩
@[simp] def seqOf : PV → Option (List PV)
  | .list xs => some xs
  | .tuple xs => some xs
  | _ => none
@[simp] def iSeq (fa : En → RE PV) (ρ : En) : RE (List PV) := (fa ρ).bind fun v ρ1 => match seqOf v with | some xs => .ok xs ρ1 | none => .bad
theorem iv_seq (ha : EV X C .sh e fa) : IV X C tx tg e (iSeq fa) := by
  refine PI.imp (pi_seq ha) fun σ H R ⟨F, O, ρ, r, q⟩ => ?_
  unfold iSeq at q
  refine tE.bind r (fun v ρ1 F1 O1 H1 x e1 s1 r1 p1 => ?_) (fun c ρ1 e1 => ?_) fun e1 => ?_
  · rw [e1] at q
    simp only [RE.bind] at q
    have p1 : Rep X.K F1 x v := p1
    cases v with
    | list xs => cases p1 with | lst hs hr => exact ⟨_, rfl, .inl ⟨⟨_, .of (r1.sub _ _ hs)⟩, q F1 O1 H1 _ s1 r1 (itOk_list (.of hs) hr)⟩⟩
    | tuple xs => cases p1 with | tup hs hr => exact ⟨_, rfl, .inr ⟨⟨_, same_sqT r1.sub hs.sq⟩, q F1 O1 H1 _ s1 r1 (itOk_tup hs.sq hr)⟩⟩
    | _ => exact q.elim
  · rw [e1] at q; exact q
  · rw [e1] at q; exact q.elim
/-- ranges -/
def upTo (lo : Int) (n : Nat) : List PV := (List.range n).map fun i => .int (lo + (i : Nat))
theorem upTo_get {lo : Int} {n i : Nat} {p : PV} (h : (upTo lo n)[i]? = some p) : p = .int (lo + (i : Nat)) := by
  unfold upTo at h
  rw [List.getElem?_map] at h
  cases q : (List.range n)[i]? with
  | none => rw [q] at h; cases h
  | some j =>
    rw [q] at h
    obtain ⟨h1, h2⟩ := List.getElem?_eq_some_iff.mp q
    rw [List.getElem_range] at h2
    subst h2
    exact (Option.some.inj h).symm
theorem itOk_rng {K : PySem.W.Frag} {F : Hp} {lo : Int} {n : Nat} : ItOk K F tg (Itr lo n) (upTo lo n) :=
  ⟨fun H i s h => by show i < n; unfold upTo at h; simpa using h, fun H i s h => by show n ≤ i; unfold upTo at h; simpa using h, fun H i x H' p s y q => by
    obtain ⟨e, y⟩ := y
    rw [upTo_get q, y]
    exact ⟨.inl e, .s (.int _), fun _ _ => .int _⟩⟩
@[simp] def iR1 (fa : En → RE (List PV)) (ρ : En) : RE (List PV) := (fa ρ).bind fun v ρ1 => match v with | [.int j] => if -1000000000 ≤ j ∧ j ≤ 1000000000 then .ok (upTo 0 j.toNat) ρ1 else .bad | _ => .bad
@[simp] def iR2 (fa : En → RE (List PV)) (ρ : En) : RE (List PV) := (fa ρ).bind fun v ρ1 => match v with | [.int i, .int j] => if -1000000000 ≤ i ∧ i ≤ 1000000000 ∧ -1000000000 ≤ j ∧ j ≤ 1000000000 then .ok (upTo i (j - i).toNat) ρ1 else .bad | _ => .bad
theorem iv_r1 {a : Expr} {fa : En → RE (List PV)} (hg : Gl X "range") (hm : X.mg "range" = none) (ha : AV X C .rd [a] fa) (hs : starEach [a] X.env = [(false, eval a X.env)] := by rfl) : IV X C tx tg (.Call (.Name "range" p) [a] [] pos) (iR1 fa) := by
  refine PI.imp (pi_range1 hg hm ha hs) fun σ H R ⟨F, O, ρ, r, q⟩ => ?_
  unfold iR1 at q
  refine tA.bind r (fun v ρ1 F1 O1 H1 x e1 s1 r1 p1 => ?_) (fun c ρ1 e1 => ?_) fun e1 => ?_
  · rw [e1] at q
    simp only [RE.bind] at q
    split at q
    · split at q
      · obtain ⟨y, rfl, hy⟩ := RepRA.one p1
        exact ⟨_, by rw [hy.intE], by omega, by omega, q F1 O1 H1 _ s1 r1 itOk_rng⟩
      · exact q.elim
    · exact q.elim
  · rw [e1] at q; exact q
  · rw [e1] at q; exact q.elim
theorem iv_r2 {a b : Expr} {fa : En → RE (List PV)} (hg : Gl X "range") (hm : X.mg "range" = none) (ha : AV X C .rd [a, b] fa) (hs : starEach [a, b] X.env = [(false, eval a X.env), (false, eval b X.env)] := by rfl) (hs2 : starEach [b] X.env = [(false, eval b X.env)] := by rfl) :
    IV X C tx tg (.Call (.Name "range" p) [a, b] [] pos) (iR2 fa) := by
  refine PI.imp (pi_range2 hg hm ha hs hs2) fun σ H R ⟨F, O, ρ, r, q⟩ => ?_
  unfold iR2 at q
  refine tA.bind r (fun v ρ1 F1 O1 H1 x e1 s1 r1 p1 => ?_) (fun c ρ1 e1 => ?_) fun e1 => ?_
  · rw [e1] at q
    simp only [RE.bind] at q
    split at q
    · split at q
      · obtain ⟨y, z, rfl, hy, hz⟩ := RepRA.two p1
        exact ⟨_, _, by rw [hy.intE, hz.intE], by omega, q F1 O1 H1 _ s1 r1 itOk_rng⟩
      · exact q.elim
    · exact q.elim
  · rw [e1] at q; exact q
  · rw [e1] at q; exact q.elim
/-- zip of two lists, or of two tuples, both shared -/
def zipP : List PV → List PV → List PV
  | x :: xs, y :: ys => .tuple [x, y] :: zipP xs ys
  | _, _ => []
@[simp] def iZip (fa : En → RE (List PV)) (ρ : En) : RE (List PV) := (fa ρ).bind fun v ρ1 => match v with
  | [.list xs, .list ys] => .ok (zipP xs ys) ρ1
  | [.tuple xs, .tuple ys] => .ok (zipP xs ys) ρ1
  | _ => .bad
end
def forL (tg : Tg) (g : En → SR) : List PV → En → SR
  | [], ρ => .nx ρ
  | x :: xs, ρ => match tg.put x ρ with
    | none => .bad
    | some ρ1 => match g ρ1 with
      | .nx ρ2 => forL tg g xs ρ2
      | .ct ρ2 => forL tg g xs ρ2
      | .bk ρ2 => .nx ρ2
      | r => r
@[simp] def sFor (tg : Tg) (it : En → RE (List PV)) (g : En → SR) (ρ : En) : SR := match it ρ with
  | .ok xs ρ1 => forL tg g xs ρ1
  | .exc c ρ1 => .exc c ρ1
  | .bad => .bad
theorem sv_for {X : Cx} {C : Cf} {tx iter : Expr} {body : List Stmt} {tg : Tg} {it : En → RE (List PV)} {g : En → SR} {pos : Pos} (hp : PassesOwn (model X.prog X.w) X.A X.env X.xe) (hc : X.calm = true) (hi : IV X C tx tg iter it) (hg : GV X tx tg) (hio : ∀ i ∈ tg.slots, i ∉ C.ioS) (hb : SVs X C body g)
    (hs : ∀ x, foldedSetIterable iter X.env x = pure x := by intro _; rfl) : SV X C (.For tx iter body [] pos) (sFor tg it g) := by
  refine PS.imp (ps_for hp hc hi hg hb hs) fun D σ H ⟨F, O, ρ, r, q⟩ => ?_
  unfold sFor at q
  refine ⟨F, O, ρ, r, ?_⟩
  cases ef : it ρ with
  | exc c ρ1 => rw [ef] at q; exact exc_s q
  | bad => rw [ef] at q; exact q
  | ok xs ρ1 =>
    rw [ef] at q
    intro F1 O1 H1 J s1 r1 ok
    -- the turns
    refine ⟨fun i m σ' H' => m = xs.length - i ∧ i ≤ xs.length ∧ ∃ F2 O2 ρ2, Step F H O F2 H' O2 ∧ Same F1 F2 ∧ Rel X.K C F2 O2 σ' H' ρ2 ∧ PostS X.K C F H O D σ (forL tg g (xs.drop i) ρ2), ⟨xs.length, rfl, Nat.zero_le _, F1, O1, ρ1, s1, .refl _, r1, q⟩, ?_⟩
    rintro i m σ' H' ⟨rfl, hi', F2, O2, ρ2, s2, e2, r2, q2⟩
    have ok2 := ok.mono e2
    by_cases hlt : i < xs.length
    · refine .inr ⟨ok2.go H' i r2.sub hlt, fun σ3 H3 => ∃ F3 O3 ρ3, Step F H O F3 H3 O3 ∧ Same F1 F3 ∧ Rel X.K C F3 O3 σ3 H3 ρ3 ∧ PostS X.K C F H O D σ (forL tg g (xs.drop (i + 1)) ρ3), fun σ3 H3 ⟨F3, O3, ρ3, a, b, c, d⟩ => ⟨xs.length - (i + 1), by omega, rfl, hlt, F3, O3, ρ3, a, b, c, d⟩, fun x H3 y => ?_⟩
      have hx : xs[i]? = some xs[i] := List.getElem?_eq_getElem hlt
      obtain ⟨hH, hy, hn⟩ := ok2.yld H' i x H3 _ r2.sub y hx
      rw [List.drop_eq_getElem_cons hlt] at q2
      unfold forL at q2
      -- the heap may have one more object
      obtain ⟨s3, r3⟩ : Step F2 H' O2 F2 H3 O2 ∧ Rel X.K C F2 O2 σ' H3 ρ2 := by
        rcases hH with e | ⟨T, o, n, e⟩
        · subst e; exact ⟨.refl, r2⟩
        · subst e; exact ⟨(r2.alloc n).2, (r2.alloc n).1⟩
      cases ep : tg.put xs[i] ρ2 with
      | none => rw [ep] at q2; exact q2.elim
      | some ρ3 =>
        rw [ep] at q2
        simp only at q2
        refine tg_put [] r3 hy hn ep hio fun σ4 O4 s4 r4 _ => ⟨F2, O4, ρ3, r4, ?_⟩
        have sT := s2.trans (s3.trans s4)
        cases e5 : g ρ3 with
        | nx ρ5 => rw [e5] at q2; exact fun F5 O5 σ5 H5 s5 r5 => ⟨F5, O5, ρ5, sT.trans s5, e2.trans s5.ext, r5, q2⟩
        | ct ρ5 => rw [e5] at q2; exact fun F5 O5 σ5 H5 s5 r5 => ⟨F5, O5, ρ5, sT.trans s5, e2.trans s5.ext, r5, q2⟩
        | bk ρ5 => rw [e5] at q2; exact fun F5 O5 σ5 H5 s5 r5 => q2 F5 O5 σ5 H5 (sT.trans s5) r5
        | ret v ρ5 => rw [e5] at q2; exact fun F5 O5 σ5 H5 x s5 r5 p5 => q2 F5 O5 σ5 H5 x (sT.trans s5) r5 (p5.from sT)
        | exc c ρ5 => rw [e5] at q2; exact fun F5 O5 σ5 H5 s5 r5 => q2 F5 O5 σ5 H5 (sT.trans s5) r5
        | bad => rw [e5] at q2; exact q2
    · have e : i = xs.length := by omega
      subst e
      rw [List.drop_length] at q2
      exact .inl ⟨ok2.stop H' _ r2.sub (Nat.le_refl _), q2 F2 O2 σ' H' s2 r2⟩
@[simp] def wipeE (ρ : En) : List Nat → En
  | [] => ρ
  | v :: vs => (wipeE ρ vs).set v none
@[simp] def restE (ρ0 : En) : List Nat → En → En
  | [], ρ => ρ
  | v :: vs, ρ => (restE ρ0 vs ρ).set v (match ρ0[v]? with | some (some (.s p)) => some (.s p) | _ => none)
def freeOs (O : Own) (vs : List Nat) : Own := fun j a => j ∉ vs ∧ O j a
theorem freeOs_ne {O : Own} {vs : List Nat} {j : Nat} (n : j ∉ vs) : freeOs O vs j = O j := funext fun a => propext ⟨fun h => h.2, fun h => ⟨n, h⟩⟩
theorem freeOs_le {O : Own} {vs : List Nat} {j : Nat} {a : Addr} (h : freeOs O vs j a) : O j a ∧ j ∉ vs := ⟨h.2, h.1⟩
theorem wipeE_get {ρ : En} {j : Nat} {p : Sv} : ∀ {vs : List Nat}, (wipeE ρ vs)[j]? = some (some p) → ρ[j]? = some (some p) ∧ j ∉ vs
  | [], h => ⟨h, by simp⟩
  | v :: vs, h => by
    rcases getElem_set h with ⟨_, z, _⟩ | ⟨n, h⟩
    · cases z
    · obtain ⟨h1, h2⟩ := wipeE_get h
      exact ⟨h1, fun z => (List.mem_cons.mp z).elim n h2⟩
theorem wipeE_length (ρ : En) : ∀ vs : List Nat, (wipeE ρ vs).length = ρ.length
  | [] => rfl
  | v :: vs => by unfold wipeE; rw [List.length_set, wipeE_length ρ vs]
theorem restE_length (ρ0 ρ : En) : ∀ vs : List Nat, (restE ρ0 vs ρ).length = ρ.length
  | [] => rfl
  | v :: vs => by unfold restE; rw [List.length_set, restE_length ρ0 ρ vs]
theorem restE_get {ρ0 ρ : En} {j : Nat} {p : Sv} : ∀ {vs : List Nat}, (restE ρ0 vs ρ)[j]? = some (some p) → (j ∈ vs ∧ ρ0[j]? = some (some p) ∧ ∃ w, p = .s w) ∨ (j ∉ vs ∧ ρ[j]? = some (some p))
  | [], h => .inr ⟨by simp, h⟩
  | v :: vs, h => by
    rcases getElem_set h with ⟨e, z, _⟩ | ⟨n, h⟩
    · subst e
      split at z
      · rename_i w hw
        cases z
        exact .inl ⟨List.mem_cons_self, hw, w, rfl⟩
      · cases z
    · rcases restE_get h with ⟨a, b⟩ | ⟨a, b⟩
      · exact .inl ⟨List.mem_cons_of_mem _ a, b⟩
      · exact .inr ⟨fun z => (List.mem_cons.mp z).elim n a, b⟩
section
variable {K : PySem.W.Frag} {C : Cf} {F H F' H' : Hp} {O O' : Own} {σ : L2.St} {ρ ρ' : En} {vs : List Nat}
theorem wipe_get {σ : L2.St} {j : Nat} : ∀ {vs : List Nat}, j ∉ vs → (wipe σ vs)[j]? = σ[j]?
  | [], _ => rfl
  | v :: vs, h => by
    unfold wipe
    rw [List.getElem?_set_ne (fun e => h (by rw [e]; exact List.mem_cons_self)), wipe_get fun z => h (List.mem_cons_of_mem _ z)]
theorem Rel.wipe (r : Rel K C F O σ H ρ) (hi : ∀ i ∈ vs, i ∉ C.ioS) : Rel K C F (freeOs O vs) (L2.wipe σ vs) H (wipeE ρ vs) := by
  refine ⟨r.sub, by rw [wipeE_length, wipe_length]; exact r.len, fun j p h => ?_, fun j k a h1 h2 => r.inj j k a (freeOs_le h1).1 (freeOs_le h2).1, fun j a h => r.out j a (freeOs_le h).1, fun p hp => ?_, r.tabs, r.nt⟩
  · obtain ⟨h1, h2⟩ := wipeE_get h
    obtain ⟨v, h3, h4⟩ := r.sl j p h1
    refine ⟨v, by rw [wipe_get h2]; exact h3, ?_⟩
    rw [freeOs_ne h2]; exact h4
  · rw [freeOs_ne fun z => hi p.1 z (List.of_mem_zip (show (p.1, p.2) ∈ C.ioS.zip C.ioA from hp)).1]
    exact r.io p hp
theorem step_frees : Step F H O F H (freeOs O vs) := ⟨.refl _, fun _ h => .inl h, fun _ _ h _ => .inl h, fun j a h => .inl ⟨j, (freeOs_le h).1⟩⟩
/-- back from the block -/
theorem Rel.rest (r : Rel K C F O σ H ρ) (e : Same F F') (r' : Rel K C F' O' (L2.wipe σ vs) H' ρ') (hi : ∀ i ∈ vs, i ∉ C.ioS) : Rel K C F' (freeOs O' vs) σ H' (restE ρ vs ρ') := by
  refine ⟨r'.sub, by rw [restE_length, r'.len, wipe_length], fun j p h => ?_, fun j k a h1 h2 => r'.inj j k a (freeOs_le h1).1 (freeOs_le h2).1, fun j a h => r'.out j a (freeOs_le h).1, fun p hp => ?_, r'.tabs, r'.nt⟩
  · rcases restE_get h with ⟨h1, h2, w, rfl⟩ | ⟨h1, h2⟩
    · obtain ⟨v, h3, h4⟩ := r.sl j _ h2
      cases h4 with | s z => exact ⟨v, h3, .s (z.mono e)⟩
    · obtain ⟨v, h3, h4⟩ := r'.sl j p h2
      refine ⟨v, by rw [← wipe_get h1]; exact h3, ?_⟩
      rw [freeOs_ne h1]; exact h4
  · rw [freeOs_ne fun z => hi p.1 z (List.of_mem_zip (show (p.1, p.2) ∈ C.ioS.zip C.ioA from hp)).1]
    exact r'.io p hp
end
/-- the items that a comprehension makes -/
def lcL (tg : Tg) (vs : List Nat) (gt : En → RE Bool) (fe : En → RE PV) : List PV → En → RE (List PV)
  | [], ρ => .ok [] ρ
  | x :: xs, ρ => match tg.put x ρ with
    | none => .bad
    | some ρ1 => match gt ρ1 with
      | .ok true ρ2 => (match fe ρ2 with
        | .ok v ρ3 => (match lcL tg vs gt fe xs (wipeE ρ3 vs) with | .ok ws ρ4 => .ok (v :: ws) ρ4 | _ => .bad)
        | _ => .bad)
      | .ok false ρ2 => lcL tg vs gt fe xs (wipeE ρ2 vs)
      | _ => .bad
@[simp] def bYes (ρ : En) : RE Bool := .ok true ρ
def NV (X : Cx) (C : Cf) (ifs : List Expr) (gt : En → RE Bool) : Prop := PTs X ifs (tB' X.K C gt)
theorem nv_nil {X : Cx} {C : Cf} : NV X C [] bYes := ⟨fun pins s σ H Q I ⟨F, O, ρ, r, q⟩ => pts_nil.run pins s σ H Q I (q F O H .refl r)⟩
theorem nv_one {X : Cx} {C : Cf} {c : Expr} {gt : En → RE Bool} (h : TV X C c gt) : NV X C [c] gt := pts_one h
@[simp] def eLC (tg : Tg) (vs : List Nat) (it : En → RE (List PV)) (gt : En → RE Bool) (fe : En → RE PV) (ρ : En) : RE PV := match it ρ with
  | .ok xs ρ1 => if xs.length ≤ 16777216 then (match lcL tg vs gt fe xs (wipeE ρ1 vs) with | .ok ws ρ2 => .ok (.list ws) (restE ρ1 vs ρ2) | _ => .bad) else .bad
  | .exc c ρ1 => .exc c ρ1
  | .bad => .bad
section
variable {X : Cx} {C : Cf} {elt tx iter : Expr} {ifs : List Expr} {scope : Scope} {own : List (Str × Nat)} {tg : Tg} {it : En → RE (List PV)} {gt : En → RE Bool} {fe : En → RE PV} {pos : Pos}
theorem lc_read {σ : L2.St} {H : Hp} {Q : VK} {vs : List Nat} (hv : ∀ i ∈ tg.slots, i ∈ vs) (hio : ∀ i ∈ vs, i ∉ C.ioS) (h : tE X.K C .fr (eLC tg vs it gt fe) σ H Q) :
    tLc (tI X.K C tg it) (gTg X.K tg) (tB' X.K C.nox gt) (tE X.K C.nox .sh fe) vs σ H Q := by
  obtain ⟨F, O, ρ, r, q⟩ := h
  unfold eLC at q
  refine ⟨F, O, ρ, r, ?_⟩
  cases ef : it ρ with
  | exc c ρ1 => rw [ef] at q; exact q
  | bad => rw [ef] at q; exact q
  | ok xs ρ1 =>
    rw [ef] at q
    simp only at q
    split at q
    case isFalse => exact q.elim
    rename_i hz
    cases el : lcL tg vs gt fe xs (wipeE ρ1 vs) with
    | exc c ρ2 => rw [el] at q; exact q.elim
    | bad => rw [el] at q; exact q.elim
    | ok total ρe =>
      rw [el] at q
      simp only at q
      intro F1 O1 H1 J s1 r1 ok D nD
      obtain ⟨FD, ODn⟩ := r1.free nD
      -- the block's start
      have rD := (r1.alloc (o := .lst []) nD).1
      have sD := (r1.alloc (o := .lst []) nD).2
      refine ⟨fun i m H' => m = xs.length - i ∧ i ≤ xs.length ∧ ∃ F2 O2 ρ2 acc accV, Step F1 H1 O1 F2 H' O2 ∧ Rel X.K C F2 O2 (wipe σ vs) H' ρ2 ∧ F2 D = none ∧ (∀ j, ¬ O2 j D) ∧ H' D = some (.lst accV) ∧ RepA X.K F2 accV acc ∧ acc.length ≤ i ∧
        ∃ ws, lcL tg vs gt fe (xs.drop i) ρ2 = .ok ws ρe ∧ total = acc ++ ws, ⟨xs.length, rfl, Nat.zero_le _, F1, freeOs O1 vs, wipeE ρ1 vs, [], [], sD.trans step_frees, rD.wipe hio, FD, fun j z => ODn j (freeOs_le z).1, upd_same, .nil, Nat.le_refl _, total, el, rfl⟩, ?_⟩
      rintro i m H' ⟨rfl, hi', F2, O2, ρ2, acc, accV, s2, r2, nF, nO, hD, hacc, hle, ws, hws, htot⟩
      have ok2 := ok.mono s2.ext
      by_cases hlt : i < xs.length
      · refine .inr ⟨ok2.go H' i r2.sub hlt, fun H3 => ∃ F3 O3 ρ3 acc3 accV3, Step F1 H1 O1 F3 H3 O3 ∧ Rel X.K C F3 O3 (wipe σ vs) H3 ρ3 ∧ F3 D = none ∧ (∀ j, ¬ O3 j D) ∧ H3 D = some (.lst accV3) ∧ RepA X.K F3 accV3 acc3 ∧ acc3.length ≤ i + 1 ∧
          ∃ ws, lcL tg vs gt fe (xs.drop (i + 1)) ρ3 = .ok ws ρe ∧ total = acc3 ++ ws, fun H3 ⟨F3, O3, ρ3, a, b, c⟩ => ⟨xs.length - (i + 1), by omega, rfl, hlt, F3, O3, ρ3, a, b, c⟩, fun x H3 y => ?_⟩
        have hx : xs[i]? = some xs[i] := List.getElem?_eq_getElem hlt
        obtain ⟨hH, hy, hn⟩ := ok2.yld H' i x H3 _ r2.sub y hx
        rw [List.drop_eq_getElem_cons hlt] at hws
        unfold lcL at hws
        obtain ⟨s3, r3⟩ : Step F2 H' O2 F2 H3 O2 ∧ Rel X.K C F2 O2 (wipe σ vs) H3 ρ2 := by
          rcases hH with e | ⟨T, o, n, e⟩
          · subst e; exact ⟨.refl, r2⟩
          · subst e; exact ⟨(r2.alloc n).2, (r2.alloc n).1⟩
        cases ep : tg.put xs[i] ρ2 with
        | none => rw [ep] at hws; cases hws
        | some ρ3 =>
          rw [ep] at hws
          simp only at hws
          -- what stays of the list that is made, over a step
          have stay : ∀ {F5 H5 : Hp} {O5 : Own}, Step F2 H' O2 F5 H5 O5 → H5 D = some (.lst accV) ∧ F5 D = none ∧ ∀ j, ¬ O5 j D := fun {F5 H5 O5} s5 => by
            refine ⟨(s5.frm D _ hD nO).same (fun _ z => nomatch z), ?_, fun j z => ?_⟩
            · cases qq : F5 D with
              | none => rfl
              | some u =>
                rcases s5.new D (by rw [qq]; exact fun z => nomatch z) with z | (z | ⟨j, z⟩)
                · exact absurd nF z
                · exact (z.no hD fun _ z => nomatch z).elim
                · exact absurd z (nO j)
            · rcases s5.own j D z with ⟨k, w⟩ | w
              · exact nO k w
              · exact w.no hD fun _ z => nomatch z
          refine tg_put vs r3 hy hn ep (fun j hj => hio j (hv j hj)) fun σ4 O4 s4 r4 hw4 => ⟨by rw [hw4 hv, Fx.wipe_idem], F2, O4, ρ3, r4.nox, ?_⟩
          have s24 := s3.trans s4
          cases e5 : gt ρ3 with
          | exc c ρ5 => rw [e5] at hws; cases hws
          | bad => rw [e5] at hws; cases hws
          | ok b ρ5 =>
            rw [e5] at hws
            intro F5 O5 H5 s5 r5
            have s25 := s24.trans s5
            cases b with
            | false =>
              simp only [Bool.false_eq_true, if_false] at hws ⊢
              obtain ⟨a1, a2, a3⟩ := stay s25
              have r5' := (r5.unnox.wipe hio)
              rw [hw4 hv, Fx.wipe_idem] at r5'
              exact ⟨F5, _, _, acc, accV, (s2.trans s25).trans step_frees, r5', a2, fun j z => a3 j (freeOs_le z).1, a1, hacc.mono s25.ext, by omega, ws, hws, htot⟩
            | true =>
              simp only [if_true] at hws ⊢
              refine ⟨F5, O5, ρ5, r5, ?_⟩
              cases e6 : fe ρ5 with
              | exc c ρ6 => rw [e6] at hws; cases hws
              | bad => rw [e6] at hws; cases hws
              | ok v ρ6 =>
                rw [e6] at hws
                simp only at hws
                cases e7 : lcL tg vs gt fe (xs.drop (i + 1)) (wipeE ρ6 vs) with
                | exc c ρ7 => rw [e7] at hws; cases hws
                | bad => rw [e7] at hws; cases hws
                | ok ws' ρ7 =>
                  rw [e7] at hws
                  cases hws
                  intro F6 O6 H6 z s6 r6 p6
                  have p6 : Rep X.K F6 z v := p6
                  have s26 := s25.trans s6
                  obtain ⟨a1, a2, a3⟩ := stay s26
                  refine ⟨accV, a1, by rw [hacc.length, sizeLine_eq]; omega, ?_⟩
                  have r6' := (r6.unnox.wipe hio)
                  rw [hw4 hv, Fx.wipe_idem] at r6'
                  have nn : ∀ j, ¬ freeOs O6 vs j D := fun j z => a3 j (freeOs_le z).1
                  -- the list is written
                  have rW : Rel X.K C F6 (freeOs O6 vs) (wipe σ vs) (upd H6 D (.lst (accV ++ [z]))) (wipeE ρ6 vs) := by
                    refine ⟨fun b u h => ?_, r6'.len, fun j p h => ?_, r6'.inj, fun j b h => ?_, r6'.io, tabs_upd r6'.tabs (fun ps z => by rw [a1] at z; cases z) (fun φ z => by rw [a1] at z; cases z), r6'.nt⟩
                    · rw [upd_ne fun e => by rw [e, a2] at h; cases h]; exact r6'.sub b u h
                    · obtain ⟨v', h3, h4⟩ := r6'.sl j p h
                      exact ⟨v', h3, h4.mono (.refl _) (fun b hb => by rw [upd_ne fun e => nn j (by rw [← e]; exact hb)]) (.upd fun φ z => by rw [a1] at z; cases z)⟩
                    · rw [upd_ne fun e => nn j (by rw [← e]; exact h)]; exact r6'.out j b h
                  have sW : Step F1 H1 O1 F6 (upd H6 D (.lst (accV ++ [z]))) (freeOs O6 vs) := by
                    have s16 := (s2.trans s26).trans (step_frees (vs := vs))
                    refine ⟨s16.ext, s16.new, fun b u h n => ?_, s16.own⟩
                    rw [upd_ne fun e => by rw [e, nD] at h; cases h]; exact s16.frm b u h n
                  exact ⟨F6, _, _, acc ++ [v], accV ++ [z], sW, rW, a2, nn, upd_same, (hacc.mono s26.ext).append (.cons p6 .nil), by rw [List.length_append]; simp; omega, ws', e7, by rw [htot, List.append_assoc]; rfl⟩
      · have e : i = xs.length := by omega
        subst e
        rw [List.drop_length] at hws
        unfold lcL at hws
        cases hws
        rw [List.append_nil] at htot
        subst htot
        refine .inl ⟨ok2.stop H' _ r2.sub (Nat.le_refl _), ?_⟩
        have rE := r1.rest s2.ext r2 hio
        exact q F2 _ H' _ (s1.trans (s2.trans step_frees)) rE ⟨D, rfl, (show NewAt H1 O1 D from .inl (.none nD)).back s1, nF, fun j z => nO j (freeOs_le z).1, .lst hD hacc⟩
end
end Fx
namespace Fx
open PySem PySem.Spec PyProof.Rows L2
section
variable {X : Cx} {C : Cf} {elt tx iter : Expr} {ifs : List Expr} {scope : Scope} {own : List (Str × Nat)} {tg : Tg} {it : En → RE (List PV)} {gt : En → RE Bool} {fe : En → RE PV} {pos : Pos}
abbrev AllBlk (X : Cx) (scope : Scope) (p : Cx → Prop) : Prop := ∀ (s : Shared) (H : Hp) (D : Addr) (cl : List (Str × Addr)) (fp : List Addr), p (X.blk s H scope (compEnvC scope cl D X.env) fp)
theorem ev_lc (vs : List Nat) (hvs : own.map (·.2) = vs) (hc : X.calm = true) (hN : X.N.Nodup) (hi : IV X C tx tg iter it) (ok : BlkOk X.N X.env.scope scope own) (hv : ∀ i ∈ tg.slots, i ∈ vs) (hio : ∀ i ∈ vs, i ∉ C.ioS)
    (hg : AllBlk X scope fun Y => GV Y tx tg) (ht : AllBlk X scope fun Y => NV Y C.nox ifs gt) (he : AllBlk X scope fun Y => EV Y C.nox .sh elt fe) (hs : ∀ x, foldedSetIterable iter X.env x = pure x := by intro _; rfl) :
    EV X C .fr (.ListComp elt [⟨tx, iter, ifs, 0⟩] scope pos) (eLC tg vs it gt fe) := by
  subst hvs
  exact PE.imp (pe_lc (g := gTg X.K tg) (tt := tB' X.K C.nox gt) (te := tE X.K C.nox .sh fe) hc hN hi ok hg ht he hs) fun σ H Q h => lc_read hv hio h
/-- .. shared from the start -/
theorem sv_lcs {i : Nat} {y : Str} {py : Pos} {spos : Pos} (vs : List Nat) (hvs : own.map (·.2) = vs) (hc : X.calm = true) (hN : X.N.Nodup) (hy : X.N[i]? = some y) (hyl : X.env.scope.names.lookup y = some .local) (hyi : i ∉ C.ioS)
    (hsw : swapsWith (.ListComp elt [⟨tx, iter, ifs, 0⟩] scope pos) (some (.Name y py)) spos.line X.env = pure true) (hi : IV X C tx tg iter it) (ok : BlkOk X.N X.env.scope scope own) (hv : ∀ i ∈ tg.slots, i ∈ vs) (hio : ∀ i ∈ vs, i ∉ C.ioS)
    (hg : AllBlk X scope fun Y => GV Y tx tg) (ht : AllBlk X scope fun Y => NV Y C.nox ifs gt) (he : AllBlk X scope fun Y => EV Y C.nox .sh elt fe) (hs : ∀ x, foldedSetIterable iter X.env x = pure x := by intro _; rfl) :
    SV X C (.Assign [.Name y py] (.ListComp elt [⟨tx, iter, ifs, 0⟩] scope pos) spos) (sAsg i (eLC tg vs it gt fe)) := by
  subst hvs
  refine PS.imp (ps_setLc (g := gTg X.K tg) (tt := tB' X.K C.nox gt) (te := tE X.K C.nox .sh fe) hc hN hy hyl hsw hi ok hg ht he hs) fun D σ H ⟨F, O, ρ, r, q⟩ => ?_
  refine lc_read hv hio ?_
  unfold sAsg at q
  refine tE.bind r (fun v ρ1 F1 O1 H1 z e1 s1 r1 p1 => ?_) (fun c ρ1 e1 => ?_) fun e1 => ?_
  · rw [e1] at q
    obtain ⟨a, rfl, fr⟩ := p1
    obtain ⟨F2, s2, r2, p2, _⟩ := fr.share s1 r1
    exact q F2 _ _ H1 (step_freeO s2) (r2.putS hyi p2)
  · rw [e1] at q; exact exc_s q
  · rw [e1] at q; exact q.elim
end
section
variable {X : Cx} {C : Cf} {e : Expr} {es : List Expr} {f : En → RE PV} {pos : Pos}
@[simp] def sTup (is : List Nat) (f : En → RE PV) (ρ : En) : SR := (f ρ).toS fun v ρ1 => match Tg.put (.t is) v ρ1 with | some ρ2 => .nx ρ2 | none => .bad
theorem sv_tup {tx : Expr} {is : List Nat} (h : EV X C .sh e f) (hg : GV X tx (.t is)) (hio : ∀ i ∈ is, i ∉ C.ioS) (hs : swapsWithSole [tx] e pos.line X.env = pure false := by rfl) (hw : swappedStores [tx] e X.env = pure none := by rfl)
    (h1 : (assignEach [tx] X.env).map (·.2) = [assign tx X.env] := by rfl) : SV X C (.Assign [tx] e pos) (sTup is f) := by
  refine PS.imp (ps_asg h hg hs hw h1) fun D σ H ⟨F, O, ρ, r, q⟩ => ?_
  unfold sTup at q
  refine tE.bind r (fun v ρ1 F1 O1 H1 z e1 s1 r1 p1 => ?_) (fun c ρ1 e1 => ?_) fun e1 => ?_
  · rw [e1] at q
    simp only [RE.toS] at q
    have p1 : Rep X.K F1 z v := p1
    split at q
    · rename_i ρ2 hp
      exact tg_put [] r1 (.s p1) (fun i z => nomatch z) hp hio fun σ' O' s' r' _ => q F1 O' σ' H1 (s1.trans s') r'
    · exact q.elim
  · rw [e1] at q; exact exc_s q
  · rw [e1] at q; exact q.elim
/-- a, b = x, y with plain local names -/
@[simp] def sPar (i j : Nat) (fa : En → RE (List PV)) (ρ : En) : SR := match fa ρ with
  | .ok [v, w] ρ1 => .nx ((ρ1.set i (some (.s v))).set j (some (.s w)))
  | .exc c ρ1 => .exc c ρ1
  | _ => .bad
theorem sv_par {i j : Nat} {x y : Str} {a b : Expr} {fa : En → RE (List PV)} {px py pt : Pos} {kt k2 pt2} (hc : X.calm = true) (hN : X.N.Nodup) (hi : X.N[i]? = some x) (hj : X.N[j]? = some y) (hij : i ≠ j)
    (hx : X.env.scope.names.lookup x = some .local) (hy : X.env.scope.names.lookup y = some .local) (ii : i ∉ C.ioS) (ij : j ∉ C.ioS) (ha : AV X C .sh [a, b] fa)
    (hw : swappedStores [.Tuple [.Name x px, .Name y py] kt pt] (.Tuple [a, b] k2 pt2) X.env = pure (some [x, y]) := by rfl)
    (hs : swapsWithSole [.Tuple [.Name x px, .Name y py] kt pt] (.Tuple [a, b] k2 pt2) pos.line X.env = pure false := by rfl) :
    SV X C (.Assign [.Tuple [.Name x px, .Name y py] kt pt] (.Tuple [a, b] k2 pt2) pos) (sPar i j fa) := by
  refine PS.imp (ps_par hc hN hi hj hij hx hy ha hw hs) fun D σ H ⟨F, O, ρ, r, q⟩ => ?_
  unfold sPar at q
  refine tA.bind r (fun v ρ1 F1 O1 H1 z e1 s1 r1 p1 => ?_) (fun c ρ1 e1 => ?_) fun e1 => ?_
  · rw [e1] at q
    have p1 : RepA X.K F1 z v := p1
    split at q
    · rename_i v w _ e2
      cases e2
      cases p1 with
      | cons h1 h2 => cases h2 with
        | cons h2 h3 =>
          cases h3
          exact ⟨_, _, rfl, q F1 _ _ H1 (s1.trans (step_free.trans step_free)) ((r1.putS ii h1).putS ij h2)⟩
    · rename_i e2; cases e2
    · exact q.elim
  · rw [e1] at q; exact exc_s q
  · rw [e1] at q; exact q.elim
@[simp] def sPar3 (i j l : Nat) (fa : En → RE (List PV)) (ρ : En) : SR := match fa ρ with
  | .ok [v, w, u] ρ1 => .nx (((ρ1.set i (some (.s v))).set j (some (.s w))).set l (some (.s u)))
  | .exc c ρ1 => .exc c ρ1
  | _ => .bad
@[simp] def setV : PV → PV → PV → Option PV
  | .list ds, .int k, v => (ixN ds.length k).map fun j => .list (ds.set j v)
  | _, _, _ => none
@[simp] def sSub (i : Nat) (fi fv : En → RE PV) (ρ : En) : SR := (fv ρ).toS fun v ρ1 => match ρ1.at i with
  | none => .bad
  | some _ => (fi ρ1).toS fun k ρ2 => match ρ2.at i with
    | some (.o c) => (match setV c k v with | some c' => .nx (ρ2.set i (some (.o c'))) | none => .bad)
    | _ => .bad
theorem sv_sub {i : Nat} {x : Str} {ix : Expr} {px ps : Pos} {fi : En → RE PV} (hx : PE X (.Name x px) (tVar i)) (hi : EV X C .sh ix fi) (h : EV X C .sh e f) (hs : swapsWithSole [.Subscript (.Name x px) ix ps] e pos.line X.env = pure false := by rfl) (hw : swappedStores [.Subscript (.Name x px) ix ps] e X.env = pure none := by rfl)
    (h1 : (assignEach [.Subscript (.Name x px) ix ps] X.env).map (·.2) = [assign (.Subscript (.Name x px) ix ps) X.env] := by rfl)
    (ha : ∀ v, assign (.Subscript (.Name x px) ix ps) X.env v = (do
      let ov ← holding [v] (eval (.Name x px) X.env)
      let iv ← holding [v, ov] (eval ix X.env)
      standAt ps
      holding [v, ov, iv] (setItem ov iv v)
      release [v, ov, iv] []) := by intro _; rfl) : SV X C (.Assign [.Subscript (.Name x px) ix ps] e pos) (sSub i fi f) := by
  refine PS.imp (ps_asg h (pg_sub hx hi set_list ha) hs hw h1) fun D σ H ⟨F, O, ρ, r, q⟩ => ?_
  unfold sSub at q
  refine tE.bind r (fun v ρ1 F1 O1 H1 z e1 s1 r1 p1 => ?_) (fun c ρ1 e1 => ?_) fun e1 => ?_
  · rw [e1] at q
    simp only [RE.toS] at q
    have p1 : Rep X.K F1 z v := p1
    split at q
    · exact q.elim
    · rename_i p0 h0
      obtain ⟨y0, hy0, _⟩ := r1.get h0
      refine ⟨y0, hy0, ?_⟩
      refine tE.bind r1 (fun w ρ2 F2 O2 H2 y e2 s2 r2 p2 => ?_) (fun c ρ2 e2 => ?_) fun e2 => ?_
      · rw [e2] at q
        simp only at q
        have p2 : Rep X.K F2 y w := p2
        split at q
        · rename_i cc hc
          obtain ⟨y1, hy1, sl⟩ := r2.get hc
          rw [hy0] at hy1; cases hy1
          split at q
          · rename_i c' hset
            cases sl with
            | o ho hat =>
              unfold setV at hset
              split at hset
              · rename_i ds k v'
                cases p2
                cases hj : ixN ds.length k with
                | none => rw [hj] at hset; cases hset
                | some j =>
                  rw [hj] at hset
                  cases hset
                  cases hat with
                  | lst hl hr =>
                    obtain ⟨s3, r3⟩ := r2.write (o := .lst _) hy0 ho (.lst hl hr) (.lst upd_same (hr.set (p1.mono s2.ext) j))
                    exact ⟨_, _, k, j, rfl, rfl, hl, by rw [hr.length]; exact hj, q F2 O2 σ _ ((s1.trans s2).trans s3) r3⟩
              · cases hset
          · exact q.elim
        · exact q.elim
      · rw [e2] at q; exact ExcP.from s1 (exc_s q)
      · rw [e2] at q; exact q.elim
  · rw [e1] at q; exact exc_s q
  · rw [e1] at q; exact q.elim
/-- the method's rule r answers as g says: the new content, the answer -/
def AnsM (K : PySem.W.Frag) (md : Kd) (g : List PV → List PV → Option (List PV × PV)) (r : V → List V → Hp → VK → Prop) : Prop :=
  ∀ (F H : Hp) (a : Addr) (vs : List V) (ds : List PV) (xs : List V) (us : List PV) (ds' : List PV) (u : PV) (Q : VK), Same F H → H a = some (.lst vs) → RepA K F vs ds → ArgK K md F H xs us → g ds us = some (ds', u) →
    (∀ vs' z, RepA K F vs' ds' → Rep K F z u → Q z (upd H a (.lst vs'))) → r (.ref a) xs H Q
@[simp] def eMut (i : Nat) (g : List PV → List PV → Option (List PV × PV)) (fa : En → RE (List PV)) (ρ : En) : RE PV := match ρ.at i with
  | some (.o (.list _)) => (fa ρ).bind fun us ρ1 => match ρ1.at i with
    | some (.o (.list ds)) => (match g ds us with | some (ds', u) => .ok u (ρ1.set i (some (.o (.list ds')))) | none => .bad)
    | _ => .bad
  | _ => .bad
theorem mut_read {md : Kd} {i : Nat} {g : List PV → List PV → Option (List PV × PV)} {r : V → List V → Hp → VK → Prop} {fa : En → RE (List PV)} (an : AnsM X.K md g r) {σ : L2.St} {H : Hp} {Q : VK} (h : tE X.K C .sh (eMut i g fa) σ H Q) :
    tBM X.K "list" r (tVar i) (tA X.K C md fa) σ H Q := by
  obtain ⟨F, O, ρ, r, q⟩ := h
  unfold eMut at q
  split at q
  case h_2 => exact q.elim
  rename_i d0 h0
  obtain ⟨y0, hy0, sl0⟩ := r.get h0
  cases sl0 with
  | o ho0 hat0 =>
    cases hat0 with
    | lst hl0 hr0 =>
      refine ⟨_, hy0, .inl ⟨rfl, _, .of hl0⟩, ?_⟩
      refine tA.bind r (fun us ρ1 F1 O1 H1 xs e1 s1 r1 p1 => ?_) (fun c ρ1 e1 => ?_) fun e1 => ?_
      · rw [e1] at q
        simp only [RE.bind] at q
        split at q
        case h_2 => exact q.elim
        rename_i ds hc
        obtain ⟨y1, hy1, sl⟩ := r1.get hc
        rw [hy0] at hy1; cases hy1
        split at q
        case h_2 => exact q.elim
        rename_i ds' u hg
        cases sl with
        | o ho hat =>
          cases hat with
          | lst hl hr =>
            refine an F1 H1 _ _ ds xs us ds' u Q r1.sub hl hr p1 hg fun vs' z hv hz => ?_
            obtain ⟨s3, r3⟩ := r1.write (o := .lst vs') hy0 ho (.lst hl hr) (.lst upd_same hv)
            exact q F1 O1 _ z (s1.trans s3) r3 hz
      · rw [e1] at q; exact q
      · rw [e1] at q; exact q.elim
theorem ev_mut {i : Nat} {x : Str} {px : Pos} {es : List Expr} {name : Str} {apos : Pos} {id : String} {md : Kd} {g : List PV → List PV → Option (List PV × PV)} {r : V → List V → Hp → VK → Prop} {fa : En → RE (List PV)}
    (slot : Slot "list" name id) (hty : typeOf (.builtin id) = pure (.type "method_descriptor")) (hm : MtR X id r) (an : AnsM X.K md g r) (hx : PE X (.Name x px) (tVar i)) (ha : AV X C md (e :: es) fa)
    (hbase : attributeBase (.Name x px) name X.env (eval (.Name x px) X.env) = eval (.Name x px) X.env := by rfl)
    (hfew : ((backTo pos (starEach (e :: es) X.env)).all (fun x => !x.1) && (backToKw pos (keywordEach [] X.env)).all (fun x => x.1.isSome)
      && decide ((e :: es).length + ([] : List Keyword).length + (if ([] : List Keyword).isEmpty then 0 else 1) < 30)) = true := by rfl)
    (hline : (apos.endLine == pos.line) = true := by rfl) (hs : starEach (e :: es) X.env = (false, eval e X.env) :: starEach es X.env := by rfl) (hplain : (backTo pos (starEach es X.env)).any (·.1) = false := by rfl) :
    EV X C .sh (.Call (.Attribute (.Name x px) name apos) (e :: es) [] pos) (eMut i g fa) :=
  PE.imp (pe_bm PySem.F.plainAttrs_list slot hty hm hx ha hbase hfew hline hs hplain) fun _ _ _ h => mut_read an h
@[simp] def gAppend (ds : List PV) : List PV → Option (List PV × PV)
  | [v] => if ds.length < 16777216 then some (ds ++ [v], .none) else none
  | _ => none
theorem an_append {K : PySem.W.Frag} : AnsM K .sh gAppend rAppend := by
  intro F H a vs ds xs us ds' u Q sub hl hr p hg c
  have p : RepA K F xs us := p
  unfold gAppend at hg
  split at hg
  · split at hg
    · rename_i hz
      cases hg
      cases p with
      | cons h1 h2 =>
        cases h2
        exact ⟨a, vs, _, rfl, rfl, hl, by rw [hr.length, sizeLine_eq]; exact hz, c _ _ (hr.append (.cons h1 .nil)) .non⟩
    · cases hg
  · cases hg
@[simp] def gExtend (ds : List PV) : List PV → Option (List PV × PV)
  | [.list es] => if ds.length + es.length ≤ 16777216 then some (ds ++ es, .none) else none
  | _ => none
theorem an_extend {K : PySem.W.Frag} : AnsM K .rd gExtend rExtend := by
  intro F H a vs ds xs us ds' u Q sub hl hr p hg c
  have p : RepRA K F H xs us := p
  unfold gExtend at hg
  split at hg
  · split at hg
    · rename_i hz
      cases hg
      obtain ⟨x, rfl, hx⟩ := p.one
      obtain ⟨b, ws, rfl, hb, qb⟩ := hx.list sub
      exact ⟨a, b, vs, ws, rfl, rfl, hl, hb, by rw [hr.length, qb.length, sizeLine_eq]; exact hz, c _ _ (hr.append qb) .non⟩
    · cases hg
  · cases hg
@[simp] def gPopAt (ds : List PV) : List PV → Option (List PV × PV)
  | [.int k] => if -1000000 ≤ k ∧ k ≤ 1000000 then (ixN ds.length k).bind fun j => (ds[j]?).map fun v => (ds.eraseIdx j, v) else none
  | _ => none
theorem RepA.eraseIdx {K : PySem.W.Frag} {F : Hp} : ∀ {v : List V} {d : List PV} (n : Nat), RepA K F v d → RepA K F (v.eraseIdx n) (d.eraseIdx n)
  | _, _, _, .nil => .nil
  | _, _, 0, .cons _ r => r
  | _, _, n + 1, .cons h r => .cons h (RepA.eraseIdx n r)
theorem an_popAt {K : PySem.W.Frag} : AnsM K .sh gPopAt rPopAt := by
  intro F H a vs ds xs us ds' u Q sub hl hr p hg c
  have p : RepA K F xs us := p
  unfold gPopAt at hg
  split at hg
  · rename_i k _
    split at hg
    case isFalse => cases hg
    rename_i hk
    cases hj : ixN ds.length k with
    | none => rw [hj] at hg; cases hg
    | some j =>
      rw [hj] at hg
      simp only [Option.bind_some] at hg
      cases hv : ds[j]? with
      | none => rw [hv] at hg; cases hg
      | some v =>
        rw [hv] at hg
        cases hg
        cases p with
        | cons h1 h2 =>
          cases h2
          cases h1
          obtain ⟨y, hy, hrep⟩ := hr.get hv
          obtain ⟨i1, i2, i3, i4⟩ := ixN_seq hj
          exact ⟨a, vs, k, j, y, rfl, rfl, hl, by omega, by omega, by rw [hr.length]; exact i1, hy, c _ _ (hr.eraseIdx j) hrep⟩
  · cases hg
end
end Fx
namespace Fx
open PySem PySem.Spec PyProof.Rows L2
inductive PM where
  | s | o | k
inductive ArgsC (K : PySem.W.Frag) (F H : Hp) : List PM → List V → List PV → List (List Addr) → Prop
  | nil : ArgsC K F H [] [] [] []
  | s {ms : List PM} {x : V} {xs : List V} {v : PV} {vs : List PV} {I : List (List Addr)} : Rep K F x v → ArgsC K F H ms xs vs I → ArgsC K F H (.s :: ms) (x :: xs) (v :: vs) I
  | o {ms : List PM} {a : Addr} {xs : List V} {v : PV} {vs : List PV} {I : List (List Addr)} : OwnAt K F H a v → ArgsC K F H ms xs vs I → ArgsC K F H (.o :: ms) (.ref a :: xs) (v :: vs) ([a] :: I)
  | k {ms : List PM} {a d l : Addr} {xs : List V} {o : PV} {ps : List PV} {vs : List PV} {I : List (List Addr)} : DeskAt K F H a d l o ps → ArgsC K F H ms xs vs I → ArgsC K F H (.k :: ms) (.ref a :: xs) (dkP o ps :: vs) ([a, d, l] :: I)
inductive OutsR (K : PySem.W.Frag) (F H : Hp) : List (List Addr) → List PV → Prop
  | nil : OutsR K F H [] []
  | cons {a : Addr} {v : PV} {I : List (List Addr)} {vs : List PV} : OwnAt K F H a v → OutsR K F H I vs → OutsR K F H ([a] :: I) (v :: vs)
  | kons {a d l : Addr} {o : PV} {ps : List PV} {I : List (List Addr)} {vs : List PV} : DeskAt K F H a d l o ps → OutsR K F H I vs → OutsR K F H ([a, d, l] :: I) (dkP o ps :: vs)
structure StepC (T : List (Addr × Str)) (F H : Hp) (I : List Addr) (F' H' : Hp) : Prop where
  ext : Same F F'
  new : ∀ a, F' a ≠ none → F a ≠ none ∨ Fre H a
  frm : ∀ a o, H a = some o → a ∉ I → Kept o (H' a)
  tabs : LamX.Tabs T H'
  nt : NT F'
  sub : Same F' H'
  io : ∀ a ∈ I, F' a = none
def RetK (K : PySem.W.Frag) (k : Kd) (H F' H' : Hp) (x : V) (p : PV) : Prop := match k with
  | .fr => ∃ a, x = .ref a ∧ Fre H a ∧ F' a = none ∧ OwnAt K F' H' a p
  | .rd => RepR K F' H' x p
  | .sh => Rep K F' x p
section
variable (K : PySem.W.Frag) (T : List (Addr × Str)) (xc : Nat → Value) (ms : List PM) (kr : Kd)
def PostC (F H : Hp) (I : List (List Addr)) (Q : VK) (E : XK) : FR → Prop
  | .ret v outs => ∀ F' H' x, StepC T F H I.flatten F' H' → OutsR K F' H' I outs → RetK K kr H F' H' x v → Q x H'
  | .exc c outs => ∀ F' H', StepC T F H I.flatten F' H' → OutsR K F' H' I outs → E (xc c) none H'
  | .bad => False
def spF (g : List PV → FR) : Sp := fun vs H Q E => ∃ F pvs I, Same F H ∧ LamX.Tabs T H ∧ NT F ∧ ArgsC K F H ms vs pvs I ∧ I.flatten.Nodup ∧ (∀ a ∈ I.flatten, F a = none) ∧ PostC K T xc kr F H I Q E (g pvs)
end
@[simp] def deskE (i : Nat) : PV → Option Sv
  | .tuple [o, .list ps] => some (.k (some i) o ps)
  | _ => none
@[simp] def parE : Nat → List PM → List PV → En
  | i, .s :: ms, v :: vs => some (.s v) :: parE (i + 1) ms vs
  | i, .o :: ms, v :: vs => some (.o v) :: parE (i + 1) ms vs
  | i, .k :: ms, v :: vs => deskE i v :: parE (i + 1) ms vs
  | _, _, _ => []
def startE (n : Nat) (ms : List PM) (vs : List PV) : En := parE 0 ms vs ++ List.replicate (n - vs.length) none
@[simp] def ioSl : Nat → List PM → List Nat
  | _, [] => []
  | i, .s :: ms => ioSl (i + 1) ms
  | i, .o :: ms => i :: ioSl (i + 1) ms
  | i, .k :: ms => i :: ioSl (i + 1) ms
def ownOp : Nat → List PM → List (List Addr) → Nat → List Addr
  | i, .s :: ms, I => ownOp (i + 1) ms I
  | i, .o :: ms, as :: I => fun j => if j = i then as else ownOp (i + 1) ms I j
  | i, .k :: ms, as :: I => fun j => if j = i then as else ownOp (i + 1) ms I j
  | _, _, _ => fun _ => []
def ownOf (off : Nat) (ms : List PM) (I : List (List Addr)) : Own := fun j a => a ∈ ownOp off ms I j
theorem ownOf_is {off : Nat} {ms : List PM} {I : List (List Addr)} {j : Nat} {as : List Addr} (h : ownOp off ms I j = as) : IsL (ownOf off ms I j) as := fun b => by unfold ownOf; rw [h]
@[simp] def outsE : List Nat → En → Option (List PV)
  | [], _ => some []
  | i :: is, ρ => match ρ.at i with
    | some (.o v) => (outsE is ρ).map (v :: ·)
    | some (.k (some j) o ps) => if j = i then (outsE is ρ).map (dkP o ps :: ·) else none
    | _ => none
@[simp] def finR (is : List Nat) (v : PV) (ρ : En) : FR := match outsE is ρ with | some o => .ret v o | none => .bad
@[simp] def finX (is : List Nat) (c : Nat) (ρ : En) : FR := match outsE is ρ with | some o => .exc c o | none => .bad
/-- a def that tells an owned object has a return on every way -/
def runF' (kr : Kd) (n : Nat) (ms : List PM) (g : En → SR) (pvs : List PV) : FR := match g (startE n ms pvs) with
  | .nx ρ => if kr = .fr then .bad else finR (ioSl 0 ms) .none ρ
  | .ret v ρ => finR (ioSl 0 ms) v ρ
  | .exc c ρ => finX (ioSl 0 ms) c ρ
  | _ => .bad
section
variable {K : PySem.W.Frag} {F H F' H' : Hp} {ms : List PM} {xs : List V} {vs : List PV} {I : List (List Addr)}
theorem ioSl_len : ∀ (ms : List PM) (i j : Nat), (ioSl i ms).length = (ioSl j ms).length := fun ms => by
  induction ms with
  | nil => intros; rfl
  | cons m ms ih => intro i j; cases m <;> simp [ih (i + 1) (j + 1)]
theorem ArgsC.len : ∀ {ms : List PM} {xs : List V} {vs : List PV} {I : List (List Addr)} (off : Nat), ArgsC K F H ms xs vs I → xs.length = ms.length ∧ vs.length = ms.length ∧ (parE off ms vs).length = ms.length ∧ I.length = (ioSl 0 ms).length
  | _, _, _, _, _, .nil => ⟨rfl, rfl, rfl, rfl⟩
  | _, _, _, _, off, .s (ms := ms) _ r => by
    obtain ⟨h1, h2, h3, h4⟩ := r.len (off + 1)
    refine ⟨by simp [h1], by simp [h2], by simp [h3], ?_⟩
    rw [h4]; exact ioSl_len ms 0 1
  | _, _, _, _, off, .o (ms := ms) (I := I) _ r => by
    obtain ⟨h1, h2, h3, h4⟩ := r.len (off + 1)
    refine ⟨by simp [h1], by simp [h2], by simp [h3], ?_⟩
    show I.length + 1 = (ioSl 1 ms).length + 1
    rw [h4, ioSl_len ms 0 1]
  | _, _, _, _, off, .k (ms := ms) (I := I) _ r => by
    obtain ⟨h1, h2, h3, h4⟩ := r.len (off + 1)
    refine ⟨by simp [h1], by simp [h2], by simp [h3], ?_⟩
    show I.length + 1 = (ioSl 1 ms).length + 1
    rw [h4, ioSl_len ms 0 1]
theorem ownOf_mem : ∀ {ms : List PM} {I : List (List Addr)} {off i : Nat} {a : Addr}, a ∈ ownOp off ms I i → a ∈ I.flatten ∧ off ≤ i := fun {ms} => by
  induction ms with
  | nil => intro I off i a h; simp [ownOp] at h
  | cons m ms ih =>
    intro I off i a h
    cases m with
    | s => obtain ⟨h1, h2⟩ := ih (I := I) (off := off + 1) h; exact ⟨h1, by omega⟩
    | _ =>
      cases I with
      | nil => simp [ownOp] at h
      | cons b I =>
        unfold ownOp at h
        rw [List.flatten_cons]
        by_cases e : i = off
        · rw [if_pos e] at h; exact ⟨List.mem_append_left _ h, by omega⟩
        · rw [if_neg e] at h
          obtain ⟨h1, h2⟩ := ih (I := I) (off := off + 1) h
          exact ⟨List.mem_append_right _ h1, by omega⟩
theorem ownOf_inj : ∀ {ms : List PM} {I : List (List Addr)} {off i j : Nat} {a : Addr}, I.flatten.Nodup → a ∈ ownOp off ms I i → a ∈ ownOp off ms I j → i = j := fun {ms} => by
  induction ms with
  | nil => intro I off i j a _ h _; simp [ownOp] at h
  | cons m ms ih =>
    intro I off i j a nd h h'
    cases m with
    | s => exact ih (I := I) (off := off + 1) nd h h'
    | _ =>
      cases I with
      | nil => simp [ownOp] at h
      | cons b I =>
        rw [List.flatten_cons] at nd
        obtain ⟨_, n2, n3⟩ := List.nodup_append.mp nd
        unfold ownOp at h h'
        by_cases e : i = off
        · rw [if_pos e] at h
          by_cases e' : j = off
          · rw [e, e']
          · rw [if_neg e'] at h'
            exact absurd rfl (n3 a h a (ownOf_mem h').1)
        · rw [if_neg e] at h
          by_cases e' : j = off
          · rw [if_pos e'] at h'
            exact absurd rfl (n3 a h' a (ownOf_mem h).1)
          · rw [if_neg e'] at h'
            exact ih (I := I) (off := off + 1) n2 h h'
theorem ownOf_io : ∀ {ms : List PM} {I : List (List Addr)} {off : Nat}, ∀ p ∈ (ioSl off ms).zip I, ownOp off ms I p.1 = p.2 ∧ off ≤ p.1 := fun {ms} => by
  induction ms with
  | nil => intro I off p h; simp at h
  | cons m ms ih =>
    intro I off p h
    cases m with
    | s => obtain ⟨a, b⟩ := ih (I := I) (off := off + 1) p h; exact ⟨a, by omega⟩
    | _ =>
      cases I with
      | nil => simp at h
      | cons b I =>
        rcases List.mem_cons.mp h with e | h
        · subst e; exact ⟨by unfold ownOp; rw [if_pos rfl], Nat.le_refl _⟩
        · obtain ⟨h1, h2⟩ := ih (I := I) (off := off + 1) p h
          exact ⟨by unfold ownOp; rw [if_neg (by omega)]; exact h1, by omega⟩
theorem ArgsC.slot {C : Cf} : ∀ {ms : List PM} {xs : List V} {vs : List PV} {I : List (List Addr)}, ArgsC K F H ms xs vs I → ∀ (off i : Nat) (p : Sv), (∀ j, C.dk (off + j) = ownOp off ms I (off + j)) → (parE off ms vs)[i]? = some (some p) → ∃ v, xs[i]? = some v ∧ SlotR K C F (ownOf off ms I (off + i)) H v p
  | _, _, _, _, .nil, _, _, _, _, h => by simp at h
  | _, _, _, _, .s hr r, off, 0, p, hd, h => by simp at h; subst h; exact ⟨_, rfl, .s hr⟩
  | _, _, _, _, .s (ms := ms) (I := I) hr r, off, i + 1, p, hd, h => by
    obtain ⟨v, h1, h2⟩ := r.slot (C := C) (off + 1) i p (fun j => by rw [Nat.add_assoc, Nat.add_comm 1 j]; exact hd (j + 1)) (by simpa using h)
    refine ⟨v, by simpa using h1, ?_⟩
    have e : off + (i + 1) = off + 1 + i := by omega
    rw [e]; exact h2
  | _, _, _, _, .o (a := a) ha r, off, 0, p, hd, h => by simp at h; subst h; exact ⟨_, rfl, .o (ownOf_is (by unfold ownOp; rw [if_pos (Nat.add_zero off)])).is ha⟩
  | _, _, _, _, .o (ms := ms) (I := I) (a := a0) ha r, off, i + 1, p, hd, h => by
    have un : ∀ j, ownOp off (.o :: ms) ([a0] :: I) (off + (j + 1)) = ownOp (off + 1) ms I (off + 1 + j) := fun j => by
      have e : off + (j + 1) = off + 1 + j := by omega
      rw [← e]
      conv => lhs; unfold ownOp
      rw [if_neg (by omega)]
    obtain ⟨v, h1, h2⟩ := r.slot (C := C) (off + 1) i p (fun j => by rw [← un j, ← hd (j + 1), Nat.add_assoc, Nat.add_comm 1 j]) (by simpa using h)
    refine ⟨v, by simpa using h1, ?_⟩
    have e2 : ownOf off (.o :: ms) ([a0] :: I) (off + (i + 1)) = ownOf (off + 1) ms I (off + 1 + i) := by
      unfold ownOf
      rw [un i]
    rw [e2]; exact h2
  | _, _, _, _, .k (ms := ms) (I := I) (a := a0) (d := d0) (l := l0) (o := o0) (ps := p0) ha r, off, 0, p, hd, h => by
    have e : ownOp off (.k :: ms) ([a0, d0, l0] :: I) (off + 0) = [a0, d0, l0] := by unfold ownOp; rw [if_pos (Nat.add_zero off)]
    simp [dkP] at h; subst h
    exact ⟨_, rfl, .kk (fun i hi => by cases hi; have := hd 0; rw [e] at this; exact this) (ownOf_is e) ha⟩
  | _, _, _, _, .k (ms := ms) (I := I) (a := a0) (d := d0) (l := l0) ha r, off, i + 1, p, hd, h => by
    have un : ∀ j, ownOp off (.k :: ms) ([a0, d0, l0] :: I) (off + (j + 1)) = ownOp (off + 1) ms I (off + 1 + j) := fun j => by
      have e : off + (j + 1) = off + 1 + j := by omega
      rw [← e]
      conv => lhs; unfold ownOp
      rw [if_neg (by omega)]
    obtain ⟨v, h1, h2⟩ := r.slot (C := C) (off + 1) i p (fun j => by rw [← un j, ← hd (j + 1), Nat.add_assoc, Nat.add_comm 1 j]) (by simpa using h)
    refine ⟨v, by simpa using h1, ?_⟩
    have e2 : ownOf off (.k :: ms) ([a0, d0, l0] :: I) (off + (i + 1)) = ownOf (off + 1) ms I (off + 1 + i) := by
      unfold ownOf
      rw [un i]
    rw [e2]; exact h2
theorem ArgsC.there : ∀ {ms : List PM} {xs : List V} {vs : List PV} {I : List (List Addr)}, ArgsC K F H ms xs vs I → ∀ a ∈ I.flatten, ∃ o, H a = some o ∧ ∀ ps, o ≠ .tbl ps
  | _, _, _, _, .nil, _, h => by simp at h
  | _, _, _, _, .s _ r, a, h => r.there a h
  | _, _, _, _, .o ha r, b, h => by
    rw [List.flatten_cons] at h
    rcases List.mem_append.mp h with e | h
    · rw [List.mem_singleton] at e; subst e; exact ha.plain
    · exact r.there b h
  | _, _, _, _, .k ha r, b, h => by
    rw [List.flatten_cons] at h
    rcases List.mem_append.mp h with e | h
    · obtain ⟨u, h1, h2, _⟩ := ha.plain b e; exact ⟨u, h1, h2⟩
    · exact r.there b h
theorem ArgsC.sizes : ∀ {ms : List PM} {xs : List V} {vs : List PV} {I : List (List Addr)}, ArgsC K F H ms xs vs I → ∀ as ∈ I, as.length = 1 ∨ (as.length = 3 ∧ as.Nodup)
  | _, _, _, _, .nil, _, h => by simp at h
  | _, _, _, _, .s _ r, a, h => r.sizes a h
  | _, _, _, _, .o ha r, b, h => by
    rcases List.mem_cons.mp h with e | h
    · subst e; exact .inl rfl
    · exact r.sizes b h
  | _, _, _, _, .k ha r, b, h => by
    rcases List.mem_cons.mp h with e | h
    · subst e
      obtain ⟨D, vo, vs, _, h2, h3, h4, _⟩ := ha.ex
      refine .inr ⟨rfl, ?_⟩
      have n1 := ne_of h2 h3 (by intro q; cases q)
      have n2 := ne_of h2 h4 (by intro q; cases q)
      have n3 := ne_of h3 h4 (by intro q; cases q)
      simp [n1, n2, n3]
    · exact r.sizes b h
theorem ArgsC.desks : ∀ {ms : List PM} {xs : List V} {vs : List PV} {I : List (List Addr)}, ArgsC K F H ms xs vs I → ∀ as ∈ I, as.length = 1 ∨ ∃ a d l o ps, as = [a, d, l] ∧ DeskAt K F H a d l o ps
  | _, _, _, _, .nil, _, h => by simp at h
  | _, _, _, _, .s _ r, a, h => r.desks a h
  | _, _, _, _, .o ha r, b, h => by
    rcases List.mem_cons.mp h with e | h
    · subst e; exact .inl rfl
    · exact r.desks b h
  | _, _, _, _, .k ha r, b, h => by
    rcases List.mem_cons.mp h with e | h
    · subst e; exact .inr ⟨_, _, _, _, _, rfl, ha⟩
    · exact r.desks b h
theorem isL_one {oa : Addr → Prop} {a : Addr} {as : List Addr} (h : Is oa a) (h2 : IsL oa as) (h3 : as.length = 1 ∨ (as.length = 3 ∧ as.Nodup)) : as = [a] := by
  have all : ∀ b ∈ as, b = a := fun b hb => (h b).mp ((h2 b).mpr hb)
  rcases h3 with h3 | ⟨h3, h4⟩
  · obtain ⟨x, rfl⟩ := List.length_eq_one_iff.mp h3
    rw [all x List.mem_cons_self]
  · match as, h3 with
    | [x, y, z], _ =>
      have e1 := all x (by simp)
      have e2 := all y (by simp)
      subst e1 e2
      simp at h4
theorem startE_get {n i : Nat} {p : Sv} (h : (startE n ms vs)[i]? = some (some p)) : (parE 0 ms vs)[i]? = some (some p) := by
  unfold startE at h
  by_cases q : i < (parE 0 ms vs).length
  · rwa [List.getElem?_append_left q] at h
  · rw [List.getElem?_append_right (by omega), List.getElem?_replicate] at h
    split at h <;> cases h
end
def cfOf (T : List (Addr × Str)) (ms : List PM) (I : List (List Addr)) (xc : Nat → Value) (clo : Nat → Addr → HO) (lam : Nat → Addr → Addr → HO) (lq : Str) (kr : Kd) (E : XK) : Cf := ⟨ioSl 0 ms, I, xc, clo, lam, lq, fun cls d _ H => E cls d H, kr, T, ownOp 0 ms I⟩
section
variable {P : Program} {w : World} {K : PySem.W.Frag} {mg : Str → Option Value} {base : Heap}
/-- THE RULE of a def: its body's meaning gives its promise -/
theorem okF {T : List (Addr × Str)} {x qual : Str} {st : Stmt} {f : Addr} {oc dV kV doc pm cdv ct : Value} {od an : Option Addr} {osl : Array (Option Value)} {N ps : List Str} {k : Nat} {ms : List PM} {kr : Kd} {xc : Nat → Value} {clo : Cx → Nat → Addr → HO} {lam : Cx → Nat → Addr → Addr → HO} {lq : Str} {g : En → SR} (lk : K.lookup f = some ⟨oc, od, .func (PySem.W.fnOf x qual (defArgs st) (defBody st) (defScope st) dV kV doc pm an cdv ct), osl⟩) (hcd : PySem.W.codeIn K cdv qual = true) (S : FnScope N ps (defScope st)) (hl : ms.length = ps.length) (hn : ps.length ≤ N.length)
    (body : ∀ (A : Around) (outer : List Env) (s : Shared) (H : Hp) (E : XK) (I : List (List Addr)), Room k (A.deeper (envOfC qual (defScope st) s.heap.objs.size f cdv)) →
      SVs (cxOf (L2.CX P w) P w K mg base N qual (defScope st) f cdv A outer s H E) (cfOf T ms I xc (clo (cxOf (L2.CX P w) P w K mg base N qual (defScope st) f cdv A outer s H E)) (lam (cxOf (L2.CX P w) P w K mg base N qual (defScope st) f cdv A outer s H E)) lq kr E) (defBody st) g) :
    FnOk P w K mg base (L2.CX P w) (k + 1) f (PySem.W.fnOf x qual (defArgs st) (defBody st) (defScope st) dV kV doc pm an cdv ct) ps (spF K T xc ms kr (runF' kr N.length ms g)) := by
  refine fn_of lk hcd S (fun vs H Q E ⟨F, pvs, I, _, _, _, ha, _⟩ => by rw [(ha.len 0).1, hl]) fun A outer s H vs Q E hr ⟨Fz, pvs, I, sub, tb, nt, ha, nd, nF, q⟩ => ?_
  refine ⟨_, body A outer s H E I hr, ?_⟩
  obtain ⟨l1, l2, l3, l4⟩ := ha.len 0
  have there := ha.there
  -- the start
  have r0 : Rel K (cfOf T ms I xc (clo (cxOf (L2.CX P w) P w K mg base N qual (defScope st) f cdv A outer s H E)) (lam (cxOf (L2.CX P w) P w K mg base N qual (defScope st) f cdv A outer s H E)) lq kr E) Fz (ownOf 0 ms I) (L2.start N vs) H (startE N.length ms pvs) := by
    refine ⟨sub, ?_, fun i p h => ?_, fun i j a h h' => ownOf_inj nd h h', fun i a h => ⟨nF a (ownOf_mem h).1, there a (ownOf_mem h).1⟩, fun p hp => ownOf_is (ownOf_io p hp).1, tb, nt⟩
    · unfold startE L2.start
      simp only [List.length_append, List.length_map, List.length_replicate, l3, l1, l2]
    · obtain ⟨v, h1, h2⟩ := ha.slot (C := cfOf T ms I xc (clo (cxOf (L2.CX P w) P w K mg base N qual (defScope st) f cdv A outer s H E)) (lam (cxOf (L2.CX P w) P w K mg base N qual (defScope st) f cdv A outer s H E)) lq kr E) 0 i p (fun j => rfl) (startE_get h)
      rw [Nat.zero_add] at h2
      refine ⟨v, ?_, h2⟩
      unfold L2.start
      have hi : i < vs.length := (List.getElem?_eq_some_iff.mp h1).1
      rw [List.getElem?_append_left (by simpa using hi), List.getElem?_map, h1] <;> rfl
  -- a step's end
  have fin : ∀ {F' H' : Hp} {O' : Own} {σ' : L2.St} {ρ' : En}, Step Fz H (ownOf 0 ms I) F' H' O' → Rel K (cfOf T ms I xc (clo (cxOf (L2.CX P w) P w K mg base N qual (defScope st) f cdv A outer s H E)) (lam (cxOf (L2.CX P w) P w K mg base N qual (defScope st) f cdv A outer s H E)) lq kr E) F' O' σ' H' ρ' → StepC T Fz H I.flatten F' H' ∧
      (∀ outs, outsE (ioSl 0 ms) ρ' = some outs → OutsR K F' H' I outs) ∧ (∀ a ∈ I.flatten, ∃ i, O' i a) := fun {F' H' O' σ' ρ'} s' r' => by
    have hO : ∀ a ∈ I.flatten, ∃ i, O' i a := fun a hm => by
      obtain ⟨as, hz1, hz2⟩ := List.mem_flatten.mp hm
      obtain ⟨j, hj, e⟩ := List.mem_iff_getElem.mp hz1
      have hj' : j < (ioSl 0 ms).length := by rw [← l4]; exact hj
      have hz : ((ioSl 0 ms)[j], as) ∈ (ioSl 0 ms).zip I := by
        rw [List.mem_iff_getElem]
        exact ⟨j, by rw [List.length_zip]; omega, by rw [List.getElem_zip, e]⟩
      exact ⟨_, (r'.io _ hz a).mpr hz2⟩
    refine ⟨⟨s'.ext, fun a h => ?_, fun a o h n => s'.frm a o h fun i z => n (ownOf_mem z).1, r'.tabs, r'.nt, r'.sub, fun a hm => ?_⟩, fun outs ho => ?_, hO⟩
    · rcases s'.new a h with z | z | ⟨i, z⟩
      · exact .inl z
      · exact .inr z
      · obtain ⟨j, hj⟩ := hO a (ownOf_mem z).1
        exact absurd (r'.out j a hj).1 h
    · obtain ⟨j, hj⟩ := hO a hm
      exact (r'.out j a hj).1
    · have : ∀ (is : List Nat) (J : List (List Addr)) (outs : List PV), is.length = J.length → (∀ p ∈ is.zip J, IsL (O' p.1) p.2 ∧ ownOp 0 ms I p.1 = p.2 ∧ (p.2.length = 1 ∨ (p.2.length = 3 ∧ p.2.Nodup))) → outsE is ρ' = some outs → OutsR K F' H' J outs := by
        intro is
        induction is with
        | nil =>
          intro J outs e _ h
          cases J with
          | nil => cases h; exact .nil
          | cons => cases e
        | cons i is ih =>
          intro J outs e hz h
          cases J with
          | nil => cases e
          | cons a J =>
            unfold outsE at h
            split at h
            · rename_i v hv
              cases h2 : outsE is ρ' with
              | none => rw [h2] at h; cases h
              | some os =>
                rw [h2] at h
                cases h
                obtain ⟨y, hy, sl⟩ := r'.get hv
                obtain ⟨z1, _, z3⟩ := hz (i, a) List.mem_cons_self
                cases sl with
                | o ho hat =>
                  have e1 : a = [_] := isL_one ho z1 z3
                  rw [e1]
                  exact .cons hat (ih J os (by simpa using e) (fun p hp => hz p (List.mem_cons_of_mem _ hp)) h2)
            · rename_i j o ps hv
              split at h
              · rename_i hj
                subst hj
                cases h2 : outsE is ρ' with
                | none => rw [h2] at h; cases h
                | some os =>
                  rw [h2] at h
                  cases h
                  obtain ⟨y, hy, sl⟩ := r'.get hv
                  obtain ⟨_, z2, _⟩ := hz (j, a) List.mem_cons_self
                  cases sl with
                  | kk hi ho hat =>
                    have e1 : a = _ := z2.symm.trans (hi j rfl)
                    rw [e1]
                    exact .kons hat (ih J os (by simpa using e) (fun p hp => hz p (List.mem_cons_of_mem _ hp)) h2)
              · cases h
            · cases h
      exact this (ioSl 0 ms) I outs l4.symm (fun p hp => ⟨r'.io p hp, (ownOf_io p hp).1, ha.sizes p.2 (List.of_mem_zip (show (p.1, p.2) ∈ _ from hp)).2⟩) ho
  have ret : ∀ {F' H' : Hp} {O' : Own} {σ' : L2.St} {ρ' : En} {x : V} {v : PV}, Step Fz H (ownOf 0 ms I) F' H' O' → Rel K (cfOf T ms I xc (clo (cxOf (L2.CX P w) P w K mg base N qual (defScope st) f cdv A outer s H E)) (lam (cxOf (L2.CX P w) P w K mg base N qual (defScope st) f cdv A outer s H E)) lq kr E) F' O' σ' H' ρ' →
      ValK K kr H (ownOf 0 ms I) F' O' H' x v → RetK K kr H F' H' x v := fun {F' H' O' σ' ρ' x v} s' r' p' => by
    cases kr with
    | sh => exact p'
    | rd => exact p'
    | fr =>
      obtain ⟨a, e, f⟩ := p'
      refine ⟨a, e, ?_, f.nF, f.at_⟩
      rcases f.new with z | ⟨i, z⟩
      · exact z
      · obtain ⟨j, hj⟩ := (fin s' r').2.2 a (ownOf_mem z).1
        exact absurd hj (f.nO j)
  refine ⟨Fz, ownOf 0 ms I, _, r0, ?_⟩
  unfold runF' at q
  cases eg : g (startE N.length ms pvs) with
  | nx ρ' =>
    rw [eg] at q
    intro F' O' σ' H' s' r'
    simp only at q
    split at q
    · exact q.elim
    · rename_i hk
      unfold finR at q
      split at q
      · rename_i outs ho
        refine q F' H' .non (fin s' r').1 ((fin s' r').2.1 outs ho) ?_
        cases kr with
        | sh => exact .non
        | rd => exact .s .non
        | fr => exact absurd rfl hk
      · exact q.elim
  | ret v ρ' =>
    rw [eg] at q
    intro F' O' σ' H' x s' r' p'
    simp only [finR] at q
    split at q
    · rename_i outs ho
      exact q F' H' x (fin s' r').1 ((fin s' r').2.1 outs ho) (ret s' r' p')
    · exact q.elim
  | exc c ρ' =>
    rw [eg] at q
    intro F' O' σ' H' s' r'
    simp only [finX] at q
    split at q
    · rename_i outs ho
      exact q F' H' (fin s' r').1 ((fin s' r').2.1 outs ho)
    · exact q.elim
  | bk ρ' => rw [eg] at q; exact q.elim
  | ct ρ' => rw [eg] at q; exact q.elim
  | bad => rw [eg] at q; exact q.elim
end
inductive ArgsM (K : PySem.W.Frag) (F : Hp) (O : Own) (H : Hp) : List PM → List Nat → List V → List PV → Prop
  | nil : ArgsM K F O H [] [] [] []
  | s {ms : List PM} {is : List Nat} {x : V} {xs : List V} {v : PV} {vs : List PV} : Rep K F x v → ArgsM K F O H ms is xs vs → ArgsM K F O H (.s :: ms) is (x :: xs) (v :: vs)
  | o {ms : List PM} {is : List Nat} {i : Nat} {a : Addr} {xs : List V} {v : PV} {vs : List PV} : Is (O i) a → OwnAt K F H a v → ArgsM K F O H ms is xs vs → ArgsM K F O H (.o :: ms) (i :: is) (.ref a :: xs) (v :: vs)
  | k {ms : List PM} {is : List Nat} {i : Nat} {a d l : Addr} {xs : List V} {o : PV} {ps : List PV} {vs : List PV} : IsL (O i) [a, d, l] → DeskAt K F H a d l o ps → ArgsM K F O H ms is xs vs → ArgsM K F O H (.k :: ms) (i :: is) (.ref a :: xs) (dkP o ps :: vs)
def PostM (K : PySem.W.Frag) (C : Cf) (ms : List PM) (is : List Nat) (F H : Hp) (O : Own) (σ : L2.St) (Q : List V → Hp → Prop) : RE (List PV) → Prop
  | .ok vs ρ' => ∀ F' O' H' xs, Step F H O F' H' O' → Rel K C F' O' σ H' ρ' → ArgsM K F' O' H' ms is xs vs → Q xs H'
  | .exc c ρ' => ExcP K C F H O σ c ρ'
  | .bad => False
def tM (K : PySem.W.Frag) (C : Cf) (ms : List PM) (is : List Nat) (f : En → RE (List PV)) : TA := fun σ H Q => ∃ F O ρ, Rel K C F O σ H ρ ∧ PostM K C ms is F H O σ Q (f ρ)
def MV (X : Cx) (C : Cf) (ms : List PM) (is : List Nat) (es : List Expr) (f : En → RE (List PV)) : Prop := PA X es (tM X.K C ms is f)
theorem tM.bind {K : PySem.W.Frag} {C : Cf} {ms : List PM} {is : List Nat} {F H : Hp} {O : Own} {σ : L2.St} {ρ : En} {f : En → RE (List PV)} {Q : List V → Hp → Prop} (r : Rel K C F O σ H ρ)
    (ok : ∀ v ρ1 F1 O1 H1 x, f ρ = .ok v ρ1 → Step F H O F1 H1 O1 → Rel K C F1 O1 σ H1 ρ1 → ArgsM K F1 O1 H1 ms is x v → Q x H1) (ex : ∀ c ρ1, f ρ = .exc c ρ1 → ExcP K C F H O σ c ρ1) (nb : f ρ ≠ .bad) : tM K C ms is f σ H Q := by
  refine ⟨F, O, ρ, r, ?_⟩
  cases e : f ρ with
  | ok v ρ1 => exact fun F1 O1 H1 x s1 r1 p1 => ok v ρ1 F1 O1 H1 x e s1 r1 p1
  | exc c ρ1 => exact ex c ρ1 e
  | bad => exact absurd e nb
@[simp] def aIo (i : Nat) (fr : En → RE (List PV)) (ρ : En) : RE (List PV) := match ρ.at i with
  | some (.o _) => (fr ρ).bind fun vs ρ2 => match ρ2.at i with
    | some (.o v) => .ok (v :: vs) ρ2
    | _ => .bad
  | _ => .bad
@[simp] def aKo (i : Nat) (fr : En → RE (List PV)) (ρ : En) : RE (List PV) := match ρ.at i with
  | some (.k _ _ _) => (fr ρ).bind fun vs ρ2 => match ρ2.at i with
    | some (.k _ o ps) => .ok (dkP o ps :: vs) ρ2
    | _ => .bad
  | _ => .bad
@[simp] def setOuts : List Nat → List PV → En → Option En
  | [], [], ρ => some ρ
  | i :: is, v :: vs, ρ => match ρ.at i with
    | some (.o _) => setOuts is vs (ρ.set i (some (.o v)))
    | some (.k j _ _) => (match v with | .tuple [o, .list ps] => setOuts is vs (ρ.set i (some (.k j o ps))) | _ => none)
    | _ => none
  | _, _, _ => none
@[simp] def eFun (g : List PV → FR) (is : List Nat) (fa : En → RE (List PV)) (ρ : En) : RE PV := (fa ρ).bind fun vs ρ1 => match g vs with
  | .ret v outs => (match setOuts is outs ρ1 with | some ρ2 => .ok v ρ2 | none => .bad)
  | .exc c outs => (match setOuts is outs ρ1 with | some ρ2 => .exc c ρ2 | none => .bad)
  | .bad => .bad
section
variable {X : Cx} {C : Cf} {e : Expr} {es : List Expr} {fa : En → RE PV} {fr : En → RE (List PV)} {ms : List PM} {is : List Nat} {pos : Pos}
theorem mv_nil : MV X C [] [] [] aNil := PA.imp pa_nil fun σ H Q ⟨F, O, ρ, r, q⟩ => q F O H [] .refl r .nil
theorem mv_s (ha : EV X C .sh e fa) (hr : MV X C ms is es fr) (hs : starEach (e :: es) X.env = (false, eval e X.env) :: starEach es X.env := by rfl) : MV X C (.s :: ms) is (e :: es) (aCons fa fr) := by
  refine PA.imp (pa_cons ha hr hs) fun σ H Q ⟨F, O, ρ, r, q⟩ => ?_
  unfold aCons at q
  refine tE.bind r (fun v ρ1 F1 O1 H1 x e1 s1 r1 p1 => ?_) (fun c ρ1 e1 => ?_) fun e1 => ?_
  · rw [e1] at q
    refine tM.bind r1 (fun w ρ2 F2 O2 H2 y e2 s2 r2 p2 => ?_) (fun c ρ2 e2 => ?_) fun e2 => ?_
    · simp only [RE.bind, e2] at q
      exact q F2 O2 H2 _ (s1.trans s2) r2 (.s (Rep.mono s2.ext p1) p2)
    · simp only [RE.bind, e2] at q
      exact ExcP.from s1 q
    · simp only [RE.bind, e2] at q
      exact q.elim
  · rw [e1] at q; exact q
  · rw [e1] at q; exact q.elim
theorem mv_o {i : Nat} {x : Str} {px : Pos} (hx : PE X (.Name x px) (tVar i)) (hr : MV X C ms is es fr) (hs : starEach (.Name x px :: es) X.env = (false, eval (.Name x px) X.env) :: starEach es X.env := by rfl) : MV X C (.o :: ms) (i :: is) (.Name x px :: es) (aIo i fr) := by
  refine PA.imp (pa_cons hx hr hs) fun σ H Q ⟨F, O, ρ, r, q⟩ => ?_
  unfold aIo at q
  split at q
  · rename_i d0 h0
    obtain ⟨y0, hy0, _⟩ := r.get h0
    refine ⟨y0, hy0, tM.bind r (fun w ρ2 F2 O2 H2 y e2 s2 r2 p2 => ?_) (fun c ρ2 e2 => ?_) fun e2 => ?_⟩
    · simp only [RE.bind, e2] at q
      split at q
      · rename_i v hv
        obtain ⟨y1, hy1, sl⟩ := r2.get hv
        rw [hy0] at hy1; cases hy1
        cases sl with
        | o ho hat => exact q F2 O2 H2 _ s2 r2 (.o ho hat p2)
      · exact q.elim
    · simp only [RE.bind, e2] at q; exact q
    · simp only [RE.bind, e2] at q; exact q.elim
  · exact q.elim
theorem ArgsM.toC {K : PySem.W.Frag} {F : Hp} {O : Own} {H : Hp} : ∀ {ms : List PM} {is : List Nat} {xs : List V} {vs : List PV}, ArgsM K F O H ms is xs vs → ∃ I, ArgsC K F H ms xs vs I ∧ Paired (fun i a => IsL (O i) a) is I
  | _, _, _, _, .nil => ⟨[], .nil, .nil⟩
  | _, _, _, _, .s h r => by
    obtain ⟨I, h1, h2⟩ := r.toC
    exact ⟨I, .s h h1, h2⟩
  | _, _, _, _, .o ho h r => by
    obtain ⟨I, h1, h2⟩ := r.toC
    exact ⟨_ :: I, .o h h1, .cons ho.isL h2⟩
  | _, _, _, _, .k ho h r => by
    obtain ⟨I, h1, h2⟩ := r.toC
    exact ⟨_ :: I, .k h h1, .cons ho h2⟩
theorem paired_mem {α β : Type} {R : α → β → Prop} : ∀ {xs : List α} {ys : List β}, Paired R xs ys → ∀ y ∈ ys, ∃ x ∈ xs, R x y
  | _, _, .nil, y, h => nomatch h
  | _, _, .cons a b, y, h => by
    rcases List.mem_cons.mp h with e | h
    · subst e; exact ⟨_, List.mem_cons_self, a⟩
    · obtain ⟨x, h1, h2⟩ := paired_mem b y h
      exact ⟨x, List.mem_cons_of_mem _ h1, h2⟩
theorem paired_flat {O : Own} : ∀ {is : List Nat} {I : List (List Addr)}, Paired (fun i a => IsL (O i) a) is I → ∀ a ∈ I.flatten, ∃ i ∈ is, O i a
  | _, _, .nil, a, h => by simp at h
  | _, _, .cons b r, a, h => by
    rw [List.flatten_cons] at h
    rcases List.mem_append.mp h with h | h
    · exact ⟨_, List.mem_cons_self, (b a).mpr h⟩
    · obtain ⟨i, h1, h2⟩ := paired_flat r a h
      exact ⟨i, List.mem_cons_of_mem _ h1, h2⟩
theorem paired_nodup {O : Own} (inj : ∀ i j a, O i a → O j a → i = j) : ∀ {is : List Nat} {I : List (List Addr)}, Paired (fun i a => IsL (O i) a) is I → is.Nodup → (∀ as ∈ I, as.length = 1 ∨ (as.length = 3 ∧ as.Nodup)) → I.flatten.Nodup
  | _, _, .nil, _, _ => List.nodup_nil
  | _, _, .cons h r, nd, z => by
    obtain ⟨n1, n2⟩ := List.nodup_cons.mp nd
    rw [List.flatten_cons]
    refine List.nodup_append.mpr ⟨?_, paired_nodup inj r n2 fun as h => z as (List.mem_cons_of_mem _ h), fun a ha b hb e => ?_⟩
    · rcases z _ List.mem_cons_self with q | q
      · obtain ⟨x, e⟩ := List.length_eq_one_iff.mp q
        rw [e]; exact List.nodup_cons.mpr ⟨(fun z => nomatch z), List.nodup_nil⟩
      · exact q.2
    · subst e
      obtain ⟨j, hj, hb2⟩ := paired_flat r a hb
      exact n1 (by rw [inj _ _ _ ((h a).mpr ha) hb2]; exact hj)
theorem desk_same {K : PySem.W.Frag} {F H : Hp} {oa : Addr → Prop} {a d l : Addr} {o : PV} {p : List PV} {as : List Addr} (h1 : IsL oa [a, d, l]) (h2 : DeskAt K F H a d l o p) (h3 : IsL oa as) (h4 : as.length = 1 ∨ ∃ a d l o ps, as = [a, d, l] ∧ DeskAt K F H a d l o ps) : as = [a, d, l] := by
  obtain ⟨D, vo, vs, _, q1, q2, q3, _⟩ := h2.ex
  have m : ∀ b, b ∈ [a, d, l] ↔ b ∈ as := fun b => (h1 b).symm.trans (h3 b)
  rcases h4 with h4 | ⟨a', d', l', o', p', rfl, h5⟩
  · obtain ⟨x, rfl⟩ := List.length_eq_one_iff.mp h4
    have e1 : a = x := List.mem_singleton.mp ((m a).mp (by simp))
    have e2 : d = x := List.mem_singleton.mp ((m d).mp (by simp))
    rw [e1] at q1; rw [e2] at q2; rw [q1] at q2; cases q2
  · obtain ⟨D', vo', vs', _, r1, r2, r3, _⟩ := h5.ex
    have m1 := (m a').mpr (by simp)
    have m2 := (m d').mpr (by simp)
    have m3 := (m l').mpr (by simp)
    simp only [List.mem_cons, List.not_mem_nil, or_false] at m1 m2 m3
    have e1 : a' = a := by
      rcases m1 with e | e | e
      · exact e
      · rw [e, q2] at r1; cases r1
      · rw [e, q3] at r1; cases r1
    have e2 : d' = d := by
      rcases m2 with e | e | e
      · rw [e, q1] at r2; cases r2
      · exact e
      · rw [e, q3] at r2; cases r2
    have e3 : l' = l := by
      rcases m3 with e | e | e
      · rw [e, q1] at r3; cases r3
      · rw [e, q2] at r3; cases r3
      · exact e
    rw [e1, e2, e3]
inductive OutS : PV → Sv → Sv → Prop
  | o (u v : PV) : OutS v (.o u) (.o v)
  | k (j : Option Nat) (o o' : PV) (p p' : List PV) : OutS (dkP o p) (.k j o' p') (.k j o p)
theorem setOuts_get : ∀ {is : List Nat} {outs : List PV} {ρ ρ' : En}, is.Nodup → setOuts is outs ρ = some ρ' → ρ'.length = ρ.length ∧ is.length = outs.length ∧ (∀ (j : Nat) (p : Sv), ρ'[j]? = some (some p) → (j ∉ is ∧ ρ[j]? = some (some p)) ∨ (j ∈ is ∧ ∃ (k : Nat) (v : PV) (p0 : Sv), is[k]? = some j ∧ outs[k]? = some v ∧ ρ[j]? = some (some p0) ∧ OutS v p0 p)) ∧ ∀ j ∈ is, ∃ p0, ρ[j]? = some (some p0) ∧ ((∃ v, p0 = .o v) ∨ ∃ j o q, p0 = .k j o q)
  | [], [], ρ, ρ', _, h => by cases h; exact ⟨rfl, rfl, fun j p hp => .inl ⟨by simp, hp⟩, fun j h => nomatch h⟩
  | [], _ :: _, _, _, _, h => by cases h
  | _ :: _, [], _, _, _, h => by cases h
  | i :: is, v :: vs, ρ, ρ', nd, h => by
    obtain ⟨nd1, nd2⟩ := List.nodup_cons.mp nd
    -- one more, laid at i
    have one : ∀ {p0 p1 : Sv}, ρ[i]? = some (some p0) → OutS v p0 p1 → ((∃ v, p0 = .o v) ∨ ∃ j o q, p0 = .k j o q) → setOuts is vs (ρ.set i (some p1)) = some ρ' → ρ'.length = ρ.length ∧ (i :: is).length = (v :: vs).length ∧ (∀ (j : Nat) (p : Sv), ρ'[j]? = some (some p) → (j ∉ i :: is ∧ ρ[j]? = some (some p)) ∨ (j ∈ i :: is ∧ ∃ (k : Nat) (w : PV) (p0 : Sv), (i :: is)[k]? = some j ∧ (v :: vs)[k]? = some w ∧ ρ[j]? = some (some p0) ∧ OutS w p0 p)) ∧ ∀ j ∈ i :: is, ∃ p0, ρ[j]? = some (some p0) ∧ ((∃ v, p0 = .o v) ∨ ∃ j o q, p0 = .k j o q) := fun {p0 p1} h0 ho hk h => by
      obtain ⟨h1, h2, h3, h4⟩ := setOuts_get (is := is) (outs := vs) nd2 h
      refine ⟨by rw [h1, List.length_set], by simp [h2], fun j p hp => ?_, fun j hj => ?_⟩
      · rcases h3 j p hp with ⟨n, hp⟩ | ⟨m, k, u, q0, a, b, c, d⟩
        · rcases getElem_set hp with ⟨e, e2, _⟩ | ⟨ne, hp⟩
          · subst e; cases e2
            exact .inr ⟨List.mem_cons_self, 0, v, p0, rfl, rfl, h0, ho⟩
          · exact .inl ⟨fun z => (List.mem_cons.mp z).elim ne n, hp⟩
        · have ne : j ≠ i := fun z => nd1 (by rw [← z]; exact m)
          rw [List.getElem?_set_ne (Ne.symm ne)] at c
          exact .inr ⟨List.mem_cons_of_mem _ m, k + 1, u, q0, by simpa using a, by simpa using b, c, d⟩
      · rcases List.mem_cons.mp hj with e | hj
        · subst e; exact ⟨p0, h0, hk⟩
        · obtain ⟨u, hu, hu2⟩ := h4 j hj
          have ne : j ≠ i := fun z => nd1 (by rw [← z]; exact hj)
          rw [List.getElem?_set_ne (Ne.symm ne)] at hu
          exact ⟨u, hu, hu2⟩
    unfold setOuts at h
    split at h
    · rename_i w hw
      exact one (En.at_some hw) (.o w v) (.inl ⟨w, rfl⟩) h
    · rename_i j o0 q0 hw
      split at h
      · rename_i o1 q1
        exact one (En.at_some hw) (.k j o1 o0 q1 q0) (.inr ⟨j, o0, q0, rfl⟩) h
      · cases h
    · cases h
inductive OutAt (K : PySem.W.Frag) (F H : Hp) : List Addr → PV → Prop
  | o {a : Addr} {v : PV} : OwnAt K F H a v → OutAt K F H [a] v
  | k {a d l : Addr} {o : PV} {p : List PV} : DeskAt K F H a d l o p → OutAt K F H [a, d, l] (dkP o p)
theorem OutAt.plain {K : PySem.W.Frag} {F H : Hp} {as : List Addr} {v : PV} : OutAt K F H as v → ∀ b ∈ as, ∃ o, H b = some o ∧ ∀ ps, o ≠ .tbl ps
  | .o h, b, hb => by rw [List.mem_singleton] at hb; subst hb; exact h.plain
  | .k h, b, hb => by obtain ⟨u, h1, h2, _⟩ := h.plain b hb; exact ⟨u, h1, h2⟩
theorem OutsR.get {K : PySem.W.Frag} {F H : Hp} : ∀ {I : List (List Addr)} {outs : List PV} {k : Nat} {v : PV}, OutsR K F H I outs → outs[k]? = some v → ∃ as, I[k]? = some as ∧ OutAt K F H as v
  | _, _, _, _, .nil, h => by simp at h
  | _, _, 0, _, .cons a r, h => by simp at h; subst h; exact ⟨_, rfl, .o a⟩
  | _, _, k + 1, _, .cons a r, h => by
    obtain ⟨b, h1, h2⟩ := OutsR.get (k := k) r (by simpa using h)
    exact ⟨b, by simpa using h1, h2⟩
  | _, _, 0, _, .kons a r, h => by simp at h; subst h; exact ⟨_, rfl, .k a⟩
  | _, _, k + 1, _, .kons a r, h => by
    obtain ⟨b, h1, h2⟩ := OutsR.get (k := k) r (by simpa using h)
    exact ⟨b, by simpa using h1, h2⟩
theorem OutsR.len {K : PySem.W.Frag} {F H : Hp} : ∀ {I : List (List Addr)} {outs : List PV}, OutsR K F H I outs → I.length = outs.length
  | _, _, .nil => rfl
  | _, _, .cons _ r => by simp [r.len]
  | _, _, .kons _ r => by simp [r.len]
theorem paired_get {α β : Type} {R : α → β → Prop} : ∀ {xs : List α} {ys : List β} {k : Nat} {x : α} {y : β}, Paired R xs ys → xs[k]? = some x → ys[k]? = some y → R x y
  | _, _, _, _, _, .nil, h, _ => by simp at h
  | _, _, 0, _, _, .cons a _, h, h' => by simp at h h'; subst h h'; exact a
  | _, _, k + 1, _, _, .cons _ r, h, h' => paired_get (k := k) r (by simpa using h) (by simpa using h')
/-- behind a call -/
theorem Rel.called {K : PySem.W.Frag} {F H F' H' : Hp} {O : Own} {σ : L2.St} {ρ ρ' : En} {I : List (List Addr)} {outs : List PV} (r : Rel K C F O σ H ρ) (pi : Paired (fun i a => IsL (O i) a) is I) (nd : is.Nodup) (hI : ∀ as ∈ I, as.length = 1 ∨ ∃ a d l o ps, as = [a, d, l] ∧ DeskAt K F H a d l o ps)
    (s : StepC C.T F H I.flatten F' H') (ho : OutsR K F' H' I outs) (hs : setOuts is outs ρ = some ρ') :
    Step F H O F' H' O ∧ Rel K C F' O σ H' ρ' := by
  obtain ⟨h1, h2, h3, h4⟩ := setOuts_get nd hs
  have fx : ∀ i a, O i a → F' a = none := fun i a h => by
    by_cases hm : a ∈ I.flatten
    · exact s.io a hm
    · cases q : F' a with
      | none => rfl
      | some u =>
        obtain ⟨z1, o, z2, z3⟩ := r.out i a h
        rcases s.new a (by rw [q]; exact fun z => nomatch z) with z | z
        · exact absurd z1 z
        · exact (z.no z2 z3).elim
  have kept : ∀ i a, O i a → i ∉ is → ∀ o, H a = some o → (∀ ps, o ≠ .tbl ps) → H' a = H a := fun i a h n o z2 nt => by
    rw [z2]
    refine (s.frm a o z2 fun hm => ?_).same nt
    obtain ⟨j, hj, e⟩ := paired_flat pi a hm
    exact n (by rw [r.inj i j a h e]; exact hj)
  have codes : CodeKept H H' := fun a q hq => by
    refine (s.frm a _ hq fun hm => ?_).same fun _ z => nomatch z
    obtain ⟨j, hj, e⟩ := paired_flat pi a hm
    obtain ⟨w, hw, hk⟩ := h4 j hj
    obtain ⟨y, y1, y2⟩ := r.sl j _ hw
    rcases hk with ⟨u, rfl⟩ | ⟨j0, o0, q0, rfl⟩
    · cases y2 with
      | o ho2 q2 => cases ho2.eq e; exact q2.notExt _ hq
    · cases y2 with
      | kk _ ho2 q2 =>
        obtain ⟨u, z1, _, z3⟩ := q2.plain a ((ho2 a).mp e)
        rw [hq] at z1
        exact z3 _ (Option.some.inj z1).symm
  refine ⟨⟨s.ext, fun a h => (s.new a h).imp id .inl, fun a o h n => s.frm a o h fun hm => ?_, fun i a h => .inl ⟨i, h⟩⟩, ⟨s.sub, by rw [h1]; exact r.len, fun j p hp => ?_, r.inj, fun i a h => ⟨fx i a h, ?_⟩, r.io, s.tabs, s.nt⟩⟩
  · obtain ⟨j, _, e⟩ := paired_flat pi a hm
    exact n j e
  · rcases h3 j p hp with ⟨n, hp⟩ | ⟨m, k, v, p0, a, b, c, c2⟩
    · obtain ⟨v, z1, z2⟩ := r.sl j p hp
      refine ⟨v, z1, ?_⟩
      cases z2 with
      | s z => exact .s (z.mono s.ext)
      | o w1 w2 =>
        obtain ⟨o, e1, e2⟩ := w2.plain
        exact .o w1 (w2.mono s.ext (kept j _ w1.self n o e1 e2))
      | c z => exact .c (s.ext _ _ z)
      | cl w1 w2 w3 => exact .cl w1 ((kept j _ w1.self n _ w2 (fun _ z => nomatch z)).trans w2) (paired_map (fun _ _ ⟨f, c1, a, b, b1⟩ => ⟨f, c1, a, s.ext _ _ b, codes _ _ b1⟩) w3)
      | d w1 w2 w3 => exact .d w1 ((kept j _ w1.self n _ w2 (fun _ z => nomatch z)).trans w2) (w3.mono s.ext)
      | nk w1 w2 w3 => exact .nk w1 ((kept j _ w1.self n _ w2 (fun _ z => nomatch z)).trans w2) (w3.mono s.ext)
      | kk w0 w1 w2 => exact .kk w0 w1 (w2.mono s.ext fun b hb => by
          obtain ⟨u, e1, e2, _⟩ := w2.plain b hb
          exact kept j b ((w1 b).mpr hb) n u e1 e2)
      | cs w2 w3 => exact .cs (s.ext _ _ w2) (paired_map (fun _ _ ⟨f, c1, a, b, b1⟩ => ⟨f, c1, a, s.ext _ _ b, codes _ _ b1⟩) w3)
      | qq g w => exact .qq (fun a o z => match g a o z with | .inl ⟨z1, z2, z3⟩ => .inl ⟨z1, (kept j _ z1 n _ z2 z3).trans z2, z3⟩ | .inr ⟨z1, z2⟩ => .inr ⟨s.ext _ _ z1, z2⟩) w
    · obtain ⟨as, z1, z2⟩ := ho.get b
      have hO : IsL (O j) as := paired_get (R := fun i a => IsL (O i) a) pi a z1
      obtain ⟨y, y1, y2⟩ := r.sl j _ c
      cases c2 with
      | o u =>
        cases y2 with
        | o ho2 _ =>
          refine ⟨_, y1, ?_⟩
          generalize v = v' at z2
          cases z2 with
          | o z3 =>
            cases ho2.eq hO.is.self
            exact .o hO.is z3
          | k z3 =>
            exfalso
            obtain ⟨D, vo, vs, _, q2, q3, _, _⟩ := z3.ex
            have e1 := (ho2 _).mp ((hO _).mpr List.mem_cons_self)
            have e2 := (ho2 _).mp ((hO _).mpr (List.mem_cons_of_mem _ List.mem_cons_self))
            rw [e1] at q2; rw [e2] at q3
            rw [q2] at q3; cases q3
      | k j0 o1 o0 q1 q0 =>
        cases y2 with
        | kk w0 w1 w2 =>
          have e1 := desk_same w1 w2 hO (hI as (List.mem_of_getElem? z1))
          subst e1
          refine ⟨_, y1, .kk w0 w1 ?_⟩
          generalize e : dkP o1 q1 = v' at z2
          cases z2 with
          | k z3 => unfold dkP at e; cases e; exact z3
  · by_cases hm : a ∈ I.flatten
    · obtain ⟨as, q1, q2⟩ := List.mem_flatten.mp hm
      obtain ⟨k, hk, e⟩ := List.mem_iff_getElem.mp q1
      have hk2 : k < outs.length := by rw [← ho.len]; exact hk
      obtain ⟨b, z1, z2⟩ := ho.get (List.getElem?_eq_getElem hk2)
      have : b = as := by
        rw [List.getElem?_eq_getElem hk, e] at z1
        exact (Option.some.inj z1).symm
      subst this
      exact z2.plain a q2
    · obtain ⟨_, o, z2, z3⟩ := r.out i a h
      exact ⟨o, (s.frm a o z2 hm).same z3, z3⟩
end
end Fx
namespace Fx
open PySem PySem.Spec PyProof.Rows L2
section
variable {X : Cx} {C : Cf} {e : Expr} {es : List Expr} {fa : En → RE (List PV)} {ms : List PM} {is : List Nat} {p pos : Pos} {kk : Nat} {f : Addr} {fd : FuncData} {ps : List Str} {x : Str} {g : List PV → FR} {kr : Kd}
theorem ev_call (G : FnOk X.prog X.w X.K X.mg X.base (L2.CX X.prog X.w) kk f fd ps (spF X.K C.T C.xc ms kr g)) (hr : Room kk X.A) (hg : Gl X x) (hm : X.mg x = some (.ref f)) (hk : PySem.W.keepIn X.K (.ref f) = true) (hb : Binds X.K fd ps []) (tk : Takes X C.W)
    (nd : is.Nodup) (a : MV X C ms is (e :: es) fa) (hdb : (x == ("__debug__" : Str)) = false := by decide)
    (he : starEach (e :: es) X.env = (false, eval e X.env) :: starEach es X.env := by rfl) (hpl : (backTo pos (starEach es X.env)).any (·.1) = false := by rfl) : EV X C kr (.Call (.Name x p) (e :: es) [] pos) (eFun g is fa) := by
  refine PE.imp (pe_callS G hr hg hm hk hb (fun σ => passAt tk σ) a hdb he hpl) fun σ H Q ⟨F, O, ρ, r, q⟩ => ?_
  unfold eFun at q
  refine tM.bind r (fun vs ρ1 F1 O1 H1 xs e1 s1 r1 p1 => ?_) (fun c ρ1 e1 => ?_) fun e1 => ?_
  · rw [e1] at q
    simp only [RE.bind] at q
    obtain ⟨I, aC, pi⟩ := p1.toC
    have io : ∀ b ∈ I.flatten, ∃ i, O1 i b := fun b hb => by
      obtain ⟨i, _, hi⟩ := paired_flat pi b hb
      exact ⟨i, hi⟩
    refine ⟨F1, vs, I, r1.sub, r1.tabs, r1.nt, aC, paired_nodup r1.inj pi nd aC.sizes, fun b hb => ?_, ?_⟩
    · obtain ⟨i, hi⟩ := io b hb
      exact (r1.out i b hi).1
    cases eg : g vs with
    | bad => rw [eg] at q; exact q.elim
    | exc c outs =>
      rw [eg] at q
      simp only at q
      split at q
      · rename_i ρ2 hs
        intro F' H' sC oR
        obtain ⟨s2, r2⟩ := r1.called pi nd aC.desks sC oR hs
        exact q F' O1 H' (s1.trans s2) r2
      · exact q.elim
    | ret v outs =>
      rw [eg] at q
      simp only at q
      split at q
      · rename_i ρ2 hs
        intro F' H' z sC oR rk
        obtain ⟨s2, r2⟩ := r1.called pi nd aC.desks sC oR hs
        refine q F' O1 H' z (s1.trans s2) r2 ?_
        cases kr with
        | sh => exact rk
        | rd => exact rk
        | fr =>
          obtain ⟨b, e2, n1, n2, n3⟩ := rk
          refine ⟨b, e2, NewAt.back s1 (.inl n1), n2, fun i hi => ?_, n3⟩
          obtain ⟨_, o, ho, hp⟩ := r1.out i b hi
          exact n1.no ho hp
      · exact q.elim
  · rw [e1] at q; exact q
  · rw [e1] at q; exact q.elim
@[simp] def sRaise (c : Nat) (ρ : En) : SR := .exc c ρ
theorem sv_raise {c : Nat} {D : Addr} {st : Pos} (hx : C.xc c = .ref D) (hc : X.calm = true) (tk : Takes X C.W) (pk : PMk X e (fun _ H Q => Q (.ref D) none H)) : SV X C (.Raise (some e) none st) (sRaise c) := by
  refine PS.imp (ps_raise hc tk pk) fun E σ H ⟨F, O, ρ, r, q⟩ => ?_
  have z := q F O σ H .refl r
  rw [hx] at z
  exact z
end
/-- the object at a is an exception of this class -/
def ExO (cl : Value) (a : Addr) : HO := .ext fun h => ∃ (o : Obj), h.get? a = some o ∧ Zc cl none o ∧ (∃ vs, o.data = .fields vs)
end Fx
namespace Fx
open PySem PySem.Spec PyProof.Rows L2
section
variable {X : Cx}
/-- the frame's kept exceptions -/
def cloX (xc : Nat → Value) : Nat → Addr → HO := fun j a => ExO (xc j) a
@[simp] def eIsx (i : Nat) (B : List Bool) (ρ : En) : RE PV := match ρ.at i with
  | some (.s .none) => .ok (.bool false) ρ
  | some (.c j) => (match B[j]? with | some b => .ok (.bool b) ρ | none => .bad)
  | _ => .bad
variable {C : Cf}
end
@[simp] def eRef (okc : Nat → Bool) (marks : Nat → List Int) (fE : En → RE PV) (ρ : En) : RE PV := match fE ρ with
  | .ok _ ρ1 => .ok .none ρ1
  | .exc c ρ1 => if okc c then .ok (.list ((marks c).map .int)) ρ1 else .bad
  | .bad => .bad
theorem repA_ints {K : PySem.W.Frag} {F : Hp} : ∀ (l : List Int), RepA K F (l.map V.int) (l.map PyData.int)
  | [] => .nil
  | i :: l => .cons (.int i) (repA_ints l)
section
variable {X : Cx} {C : Cf} {e : Expr} {fE : En → RE PV} {okc : Nat → Bool} {marks : Nat → List Int}
abbrev Cf.wishE (C : Cf) (E : XK) : Cf := { C with W := fun cls d _ G => E cls d G }
end
end Fx
namespace Fx
open PySem PySem.Spec PyProof.Rows L2
structure Def (P : Program) (w : World) (K : PySem.W.Frag) (mg : Str → Option Value) (base : Heap) (T : List (Addr × Str)) (xc : Nat → Value) (x : Str) (lev : Nat) (ps : List Str) (ms : List PM) (kr : Kd) (g : List PV → FR) : Prop where
  ex : ∃ (f : Addr) (fd : FuncData), FnOk P w K mg base (L2.CX P w) lev f fd ps (spF K T xc ms kr g) ∧ mg x = some (.ref f) ∧ PySem.W.keepIn K (.ref f) = true ∧ Binds K fd ps [] ∧ ∃ (oc : Value) (od : Option Addr) (osl : Array (Option Value)), K.lookup f = some ⟨oc, od, .func fd, osl⟩
section
variable {X : Cx} {C : Cf} {e : Expr} {es : List Expr} {fa : En → RE (List PV)} {ms : List PM} {is : List Nat} {p pos : Pos} {lev k : Nat} {ps : List Str} {x : Str} {g : List PV → FR} {kr : Kd}
theorem ev_callD (D : Def X.prog X.w X.K X.mg X.base C.T C.xc x lev ps ms kr g) (hr : Room k X.A) (hk : lev ≤ k) (hg : Gl X x) (tk : Takes X C.W) (nd : is.Nodup) (a : MV X C ms is (e :: es) fa) (hdb : (x == ("__debug__" : Str)) = false := by decide)
    (he : starEach (e :: es) X.env = (false, eval e X.env) :: starEach es X.env := by rfl) (hpl : (backTo pos (starEach es X.env)).any (·.1) = false := by rfl) : EV X C kr (.Call (.Name x p) (e :: es) [] pos) (eFun g is fa) := by
  obtain ⟨f, fd, G, hm, kp, hb, _⟩ := D.ex
  exact ev_call G (hr.mono hk) hg hm kp hb tk nd a hdb he hpl
/-- a name of the module -/
theorem ev_gint {x : Str} {i : Int} {u : Value} {pos : Pos} (hg : Gl X x) (hm : X.mg x = some u) (hu : RelV (.int i) u) (hd : (x == ("__debug__" : Str)) = false := by decide) : EV X C .sh (.Name x pos) (eC (.int i)) := ev_c (pe_glob (v := .int i) hg hm hu hd) fun _ => .int i
end
def scr (ns : List Int) : PV := .dict [(.none, .list (ns.map .int))]
theorem spF_law {K : PySem.W.Frag} {T : List (Addr × Str)} {xc : Nat → Value} {g : List PV → FR} {H : Hp} {a : Addr} {ns : List Int} (tb : LamX.Tabs T H) (hS : SqL K H a (ns.map V.int)) (hg : g [scr ns] = .ret (.bool true) []) :
    spF K T xc [.s] .sh g [.ref a] H (fun v _ => v = .bl true) fun _ _ _ => False := by
  refine ⟨fun b => match H b with | some (.tbl _) => none | o => o, [scr ns], [], fun b o h => ?_, tb, fun b ps h => ?_, .s (.scr ?_ (repA_ints ns)) .nil, List.nodup_nil, fun _ h => (by cases h), ?_⟩
  · simp only at h
    split at h
    · cases h
    · exact h
  · simp only at h
    split at h
    · cases h
    · rename_i n
      exact n ps h
  · rcases hS with (h | ⟨o, h⟩) | h
    · refine .inl (.inl ?_)
      simp only [h]
    · refine .inl (.inr ⟨o, ?_⟩)
      simp only [h]
    · exact .inr h
  · rw [hg]
    intro F' H' x _ _ r
    have r : Rep K F' x (.bool true) := r
    cases r
    rfl
theorem tabs_cs {T : List (Addr × Str)} {H : Hp} (h : ∀ p ∈ T, H p.1 = some (.tbl #[])) : LamX.Tabs T H := fun p hp => .nil (h p hp)
theorem walkT {l : PySem.W.OpenLaw} {n k : Nat} {q : Program} {loose : List Str} {XP : (Str → Option Value) → Heap → Prop} {YP : World → Heap → Prop} {d : DefRec} {K : Params → PySem.W.Frag} {x : Str}
    (hn : l.most = some n) (hn2 : n ≤ sizeLine) (hdf : d.params.defaults = []) (hr : Room k callerA) (hY : ∀ (w : World) (h : Heap), YP w h → (K w.params).In h)
    (F : ∀ (w : World) (mg : Str → Option Value) (fa : Addr) (h : Heap), YP w h → (K w.params).In h → h.Ns mainGlobals mg → mg d.name = some (.ref fa) →
      (∀ (nm : Str), ((recsOf q).find? fun e => e.name == nm).isSome = true → ∀ c Pt, PySem.W.tabIn (K w.params) nm = some (c, Pt) → PySem.W.CodeHd h c Pt ∧ h.get? Pt = some (PySem.W.tabObj #[])) → LamX.LawAtS l w (K w.params) (L2.CX l.prog w) k n x mg fa h) :
    PySem.W.WalkO q loose XP YP l.row.toRowW d [] (fun f vs => PySem.call f vs) := by
  refine Att.attach_callB hn hdf fun w s₀ s₁ mg mb fa o pm cd doc a vs ns G Y ho hd hcd hmg hobj hints hlen hbits hg => ?_
  have kin := hY w _ Y
  obtain ⟨fd, cs, sp, t1, t2, t3, t4, t5, t6⟩ := F w mg fa _ Y kin G.T.g hmg fun nm hs c Pt ht => by
    obtain ⟨r, hr⟩ := Option.isSome_iff_exists.mp hs
    exact PySem.W.tab_of G.T kin hr ht
  exact LamX.law_callTs kin G.T.g G.T.b G.T.builtins G.T.nolimit hg t1 t2 t3 G.T.bmain hobj hints (Nat.le_trans hlen hn2) hr t6 t4 (fun H e1 e2 => t5 H a ns hlen hbits e1 e2) fun _ _ _ ⟨_, _, _, _, _, _, _, _, _, _, _, _, z⟩ => z
end Fx
namespace Fx
open PySem PySem.Spec PyProof.Rows L2
theorem nio {C : Cf} {l : List Nat} {i : Nat} (h : C.ioS = l) (d : l.contains i = false) : i ∉ C.ioS := by
  rw [h]; intro z
  rw [List.contains_iff_mem.mpr z] at d; cases d
theorem nios {C : Cf} {l is : List Nat} (h : C.ioS = l) (d : is.all (fun i => !l.contains i) = true) : ∀ i ∈ is, i ∉ C.ioS := fun i hi => by
  have z := List.all_eq_true.mp d i hi
  exact nio h (by simpa using z)
section
variable {P : Program} {w : World} {K : PySem.W.Frag} {mg : Str → Option Value} {base : Heap} {T : List (Addr × Str)} {xc : Nat → Value}
theorem def_of {x : Str} {st : Stmt} {f : Addr} {oc dV kV doc pm cdv ct : Value} {od an : Option Addr} {osl : Array (Option Value)} {N ps : List Str} {k : Nat} {ms : List PM} {kr : Kd} {clo : Cx → Nat → Addr → HO} {lam : Cx → Nat → Addr → Addr → HO} {lq : Str} {g : En → SR}
    (lk : K.lookup f = some ⟨oc, od, .func (PySem.W.fnOf x x (defArgs st) (defBody st) (defScope st) dV kV doc pm an cdv ct), osl⟩) (hcd : PySem.W.codeIn K cdv x = true) (kp : PySem.W.keepIn K (.ref f) = true) (hm : mg x = some (.ref f)) (S : FnScope N ps (defScope st)) (hl : ms.length = ps.length) (hn : ps.length ≤ N.length)
    (hb : ∀ us : List Value, us.length = ps.length → bindArgs (PySem.W.fnOf x x (defArgs st) (defBody st) (defScope st) dV kV doc pm an cdv ct) ⟨us, []⟩ = pure (ps.zip us))
    (body : ∀ (A : Around) (outer : List Env) (s : Shared) (H : Hp) (E : XK) (I : List (List Addr)), Room k (cxOf (L2.CX P w) P w K mg base N x (defScope st) f cdv A outer s H E).A →
      SVs (cxOf (L2.CX P w) P w K mg base N x (defScope st) f cdv A outer s H E) (cfOf T ms I xc (clo (cxOf (L2.CX P w) P w K mg base N x (defScope st) f cdv A outer s H E)) (lam (cxOf (L2.CX P w) P w K mg base N x (defScope st) f cdv A outer s H E)) lq kr E) (defBody st) g) : Def P w K mg base T xc x (k + 1) ps ms kr (runF' kr N.length ms g) :=
  ⟨_, _, okF (clo := clo) (lam := lam) (lq := lq) lk hcd S hl hn body, hm, kp, .all hb, _, _, _, lk⟩
/-- a class that is raised -/
structure RaiseD (K : PySem.W.Frag) (mg : Str → Option Value) (xc : Nat → Value) (c : Nat) (x : Str) : Prop where
  ex : ∃ D : Addr, xc c = .ref D ∧ ∀ X : Cx, X.K = K → X.mg = mg → Gl X x → ∀ (m : Str) (j : Nat) (p p2 pos : Pos), PMk X (.Call (.Name x p) [.Constant (.str m) j p2] [] pos) (fun _ H Q => Q (.ref D) none H)
theorem sv_raiseD {X : Cx} {C : Cf} {c : Nat} {x m : Str} {j : Nat} {p p2 pos st : Pos} (D : RaiseD X.K X.mg C.xc c x) (hc : X.calm = true) (tk : Takes X C.W) (hg : Gl X x) : SV X C (.Raise (some (.Call (.Name x p) [.Constant (.str m) j p2] [] pos)) none st) (sRaise c) := by
  obtain ⟨A, hx, h⟩ := D.ex
  exact sv_raise hx hc tk (h X rfl rfl hg m j p p2 pos)
end
end Fx
namespace Fx
open PySem PySem.Spec PyProof.Rows L2
def noLam : Nat → Addr → Addr → HO := fun _ _ _ => .lst []
theorem u65 {k : Nat} {A : Around} (r : Room k A) : A.units + 65 < cLine := by have := r.un; omega
/-- where a def stands -/
structure At (K : PySem.W.Frag) (mg : Str → Option Value) (x : Str) (st : Stmt) : Prop where
  ex : ∃ (f : Addr) (oc kV doc pm cdv ct : Value) (od an : Option Addr) (osl : Array (Option Value)), K.lookup f = some ⟨oc, od, .func (PySem.W.fnOf x x (defArgs st) (defBody st) (defScope st) .none kV doc pm an cdv ct), osl⟩ ∧ PySem.W.codeIn K cdv x = true ∧ PySem.W.keepIn K (.ref f) = true ∧ mg x = some (.ref f)
section
variable {P : Program} {w : World} {K : PySem.W.Frag} {mg : Str → Option Value} {base : Heap} {T : List (Addr × Str)} {xc : Nat → Value} {x : Str} {st : Stmt} {N ps : List Str} {k : Nat} {ms : List PM} {kr : Kd} {g : En → SR}
theorem def_at (A : At K mg x st) (S : FnScope N ps (defScope st)) (hl : ms.length = ps.length) (hn : ps.length ≤ N.length)
    (hb : ∀ (kV doc pm : Value) (an : Option Addr) (cdv ct : Value) (us : List Value), us.length = ps.length → bindArgs (PySem.W.fnOf x x (defArgs st) (defBody st) (defScope st) .none kV doc pm an cdv ct) ⟨us, []⟩ = pure (ps.zip us))
    (body : ∀ (f : Addr) (cdv : Value) (A : Around) (outer : List Env) (s : Shared) (H : Hp) (E : XK) (I : List (List Addr)), Room k (cxOf (L2.CX P w) P w K mg base N x (defScope st) f cdv A outer s H E).A →
      SVs (cxOf (L2.CX P w) P w K mg base N x (defScope st) f cdv A outer s H E) (cfOf T ms I xc (cloX xc) noLam "" kr E) (defBody st) g) : Def P w K mg base T xc x (k + 1) ps ms kr (runF' kr N.length ms g) := by
  obtain ⟨f, oc, kV, doc, pm, cdv, ct, od, an, osl, lk, hcd, kp, hm⟩ := A.ex
  exact def_of (clo := fun _ => cloX xc) (lam := fun _ => noLam) (lq := "") lk hcd kp hm S hl hn (hb kV doc pm an cdv ct) (body f cdv)
/-- the module's numbers and tuples -/
structure GI (mg : Str → Option Value) (x : Str) (i : Int) : Prop where
  ex : ∃ u, mg x = some u ∧ RelV (.int i) u
theorem ev_gi {X : Cx} {C : Cf} {x : Str} {i : Int} {pos : Pos} (G : GI X.mg x i) (hg : Gl X x) (hd : (x == ("__debug__" : Str)) = false := by decide) : EV X C .sh (.Name x pos) (eC (.int i)) := by
  obtain ⟨u, h1, h2⟩ := G.ex
  exact ev_gint hg h1 h2 hd
end
end Fx
namespace Fx
open PySem PySem.Spec PyProof.Rows L2
def upC (lo c : Int) (n : Nat) : List PV := (List.range n).map fun i => .int (lo + (i : Nat) * c)
section
variable {X : Cx} {C : Cf} {tx : Expr} {tg : Tg} {p pos : Pos}
@[simp] def iR3 (fa : En → RE (List PV)) (ρ : En) : RE (List PV) := (fa ρ).bind fun v ρ1 => match v with
  | [.int i, .int j, .int c] => if c ≠ 0 ∧ c.natAbs < 1073741824 ∧ Builtin.Range.small i j c = true ∧ 0 ≤ Builtin.Range.rangeSize i j c then .ok (upC i c (Builtin.Range.rangeSize i j c).toNat) ρ1 else .bad
  | _ => .bad
end
section
variable {K : PySem.W.Frag} {h : Heap} {mg : Str → Option Value}
theorem at_mk {x : Str} {st : Stmt} {f : Addr} {oc kV doc pm cdv ct : Value} {od an : Option Addr} {osl : Array (Option Value)} (X : K.In h) (G : h.Ns mainGlobals mg) (a : PySem.W.nsIn K mainGlobals x = some (some (.ref f)))
    (l : K.lookup f = some ⟨oc, od, .func (PySem.W.fnOf x x (defArgs st) (defBody st) (defScope st) .none kV doc pm an cdv ct), osl⟩) (c : PySem.W.codeIn K cdv x = true) (k : PySem.W.keepIn K (.ref f) = true) : At K mg x st :=
  ⟨f, oc, kV, doc, pm, cdv, ct, od, an, osl, l, c, k, PySem.W.mg_of X G a⟩
theorem gi_mk {x : Str} {u : Value} {i : Int} (X : K.In h) (G : h.Ns mainGlobals mg) (a : PySem.W.nsIn K mainGlobals x = some (some u)) (r : RelV (.int i) u) : GI mg x i := ⟨u, PySem.W.mg_of X G a, r⟩
theorem raise_mk {xc : Nat → Value} {c : Nat} {x : Str} {D : Addr} (X : K.In h) (G : h.Ns mainGlobals mg) (hx : xc c = .ref D) (a : PySem.W.nsIn K mainGlobals x = some (some (.ref D))) (k : PySem.W.keepIn K (.ref D) = true)
    (q : PySem.W.excIn K D [Value.type "ValueError", Value.type "Exception", Value.type "BaseException", Value.type "object"] "ValueError.__new__" = true) (b : PySem.W.subIn K (.ref D) (.type "BaseException") = some true) (t : PySem.W.typeIn K (.ref D) = some (.type "type")) (hd : (x == ("__debug__" : Str)) = false) : RaiseD K mg xc c x := by
  refine ⟨D, hx, fun Y hK hm hg m j p p2 pos => ?_⟩
  have gC := PySem.W.mg_of X G a
  subst hK hm
  exact pmk_own PySem.F.excBase_ValueError q gC k (raises_own b t) hg hd
/-- the facts of one raised class -/
structure ClsF (K : PySem.W.Frag) (D : Addr) : Prop where
  k : PySem.W.keepIn K (.ref D) = true
  q : PySem.W.excIn K D [Value.type "ValueError", Value.type "Exception", Value.type "BaseException", Value.type "object"] "ValueError.__new__" = true
  t : PySem.W.typeIn K (.ref D) = some (.type "type")
  c : ExcC K D
theorem raiseF {xc : Nat → Value} {c : Nat} {x : Str} {D : Addr} (X : K.In h) (G : h.Ns mainGlobals mg) (hx : xc c = .ref D) (a : PySem.W.nsIn K mainGlobals x = some (some (.ref D))) (f : ClsF K D) (hd : (x == ("__debug__" : Str)) = false) : RaiseD K mg xc c x :=
  raise_mk X G hx a f.k f.q f.c.hs f.t hd
/-- the law's end -/
theorem law_end {l : PySem.W.OpenLaw} {w : World} {fa : Addr} {T : List (Addr × Str)} {cs : List (Addr × Addr)} {xc : Nat → Value} {st : Stmt} {x : Str} {lev : Nat} {g : List PV → FR} {f : Addr} {oc kV doc pm cdv ct : Value} {od an : Option Addr} {osl : Array (Option Value)} (X : K.In h) (G : h.Ns mainGlobals mg) (hfa : mg "law" = some (.ref fa))
    (a : PySem.W.nsIn K mainGlobals "law" = some (some (.ref f))) (lk : K.lookup f = some ⟨oc, od, .func (PySem.W.fnOf "law" "law" (defArgs st) (defBody st) (defScope st) .none kV doc pm an cdv ct), osl⟩)
    (hb : ∀ (s : Shared) (u : Value), BindsTo s (PySem.W.fnOf "law" "law" (defArgs st) (defBody st) (defScope st) .none kV doc pm an cdv ct) ⟨[u], []⟩ [(x, u)])
    (hT : T.map (·.1) = cs.map (·.2)) (tab : ∀ p ∈ cs, PySem.W.CodeHd h p.1 p.2 ∧ h.get? p.2 = some (PySem.W.tabObj #[])) (hK : ∀ p ∈ cs, K.lookup p.2 = none)
    (hg : ∀ ns : List Int, ns.length ≤ 63 → (∀ z ∈ ns, Builtin.Int.intBits z ≤ 1048576) → g [scr ns] = .ret (.bool true) [])
    (D : ∀ base : Heap, (∀ p ∈ cs, LamX.TabB base mg p.1 p.2) → Def l.prog w K mg base T xc "law" lev [x] [.s] .sh g) : LamX.LawAtS l w K (L2.CX l.prog w) lev 63 x mg fa h := by
  have e := hfa.symm.trans (PySem.W.mg_of X G a)
  cases e
  refine ⟨_, cs, spF K T xc [.s] .sh g, fun p hp => (tab p hp).2, hK, fun p hp => (tab p hp).1, hb, fun H a ns hl hbits ht hS => spF_law (tabs_cs fun p hp => ?_) hS (hg ns hl hbits), fun base _ _ TB => ?_⟩
  · have : p.1 ∈ cs.map (·.2) := by rw [← hT]; exact List.mem_map.mpr ⟨p, hp, rfl⟩
    obtain ⟨q, hq, e⟩ := List.mem_map.mp this
    rw [← e]; exact ht q hq
  · obtain ⟨f', fd', F, hm, _, _, oc', od', osl', lk'⟩ := (D base TB).ex
    have e := hfa.symm.trans hm
    cases e
    rw [lk] at lk'
    cases lk'
    exact F
end
theorem GG_MOST {X : Cx} {C : Cf} {i : Int} {pos : Pos} (G : GI X.mg "MOST" i) (hg : Gl X "MOST") : EV X C .sh (.Name "MOST" pos) (eC (.int i)) := ev_gi G hg
end Fx
namespace Fx
open PySem PySem.Spec PyProof.Rows L2
section
variable {X : Cx} {pins : List (Addr × Obj)} {σ : L2.St} {H : Hp} {s : Shared}
theorem dt0_of {P : Program} {w : World} {h : Heap} {a : Addr} {L : List (List Int × Addr × Value)} (d : DT0 h a L) (hk : ∀ x ∈ L, (TK P w).is h x.1 x.2.1) : h.DictOfH (TK P w) a L := by
  obtain ⟨o, es, ep, h1, h2, h3, h4⟩ := d.ex
  exact ⟨o, es, ep, h1, h2, h3, h4, hk, d.nd⟩
theorem dt0_mk {P : Program} {w : World} {h : Heap} {a : Addr} {L : List (List Int × Addr × Value)} (d : h.DictOfH (TK P w) a L) (ns : (a == sysModules) = false) (sz : L.length ≤ sizeLine) : DT0 h a L := by
  obtain ⟨o, es, ep, h1, h2, h3, h4, _, h5⟩ := d
  exact ⟨⟨o, es, ep, h1, h2, h3, h4⟩, h5, ns, sz⟩
theorem dto_new {P : Program} {w : World} {H : Hp} {h : Heap} {a : Addr} {L : List (List Int × Addr × Value)} (d : DT0 h a L) : ObjOk P w H h a (DTO a L) := by
  obtain ⟨o, es, ep, h1, h2, h3, h4⟩ := d.ex
  exact ⟨d, ⟨o, h1⟩, fun g1 g2 p k => by
    obtain ⟨o', es', ep', e1, e2, e3, e4⟩ := p.ex
    exact ⟨⟨o', es', ep', k o' e1, e2, e3, e4⟩, p.nd, p.ns, p.sz⟩⟩
theorem dt0_at (I : Inv X pins σ H s) {a : Addr} {L : List (List Int × Addr × Value)} (e : H a = some (DTO a L)) : DT0 s.heap a L := (I.hok a _ e).1
theorem keys_at (I : Inv X pins σ H s) {L : List (List Int × Addr × Value)} (hk : ∀ x ∈ L, SqT X.K H x.2.1 (x.1.map V.int)) : ∀ x ∈ L, (TK X.prog X.w).is s.heap x.1 x.2.1 := fun x hx => I.isT (hk x hx)
/-- k in d -/
def rDin (K : PySem.W.Frag) : R2 := fun x y H Q => ∃ (a b : Addr) (L : List (List Int × Addr × Value)) (k : List Int), x = .ref b ∧ y = .ref a ∧ H a = some (DTO a L) ∧ (∀ x ∈ L, SqT K H x.2.1 (x.1.map V.int)) ∧ SqT K H b (k.map V.int) ∧ Q (.bl (atKey L k).isSome) H
theorem op_din (hu : X.A.units + 1 < cLine) : OpR X (compareOp .In) (rDin X.K) := by
  intro pins s σ H x y v u Q I rx ry ⟨a, b, L, k, ex, ey, ha, hk, hb, q⟩
  subst ex ey
  cases rx; cases ry
  have d := dt0_at I ha
  exact wpAny_in_heap (knd := TK X.prog X.w) (k := k) (tupleKind_room_in1 hu) (I.isT hb) d.ns (dt0_of d (keys_at I hk)) ⟨.bl _, H, I.tok _, rfl, q⟩
/-- d[k] = v -/
def rDset (K : PySem.W.Frag) : TSet := fun o i v H Q => ∃ (a b : Addr) (L : List (List Int × Addr × Value)) (k : List Int), o = .ref a ∧ i = .ref b ∧ H a = some (DTO a L) ∧ (∀ x ∈ L, SqT K H x.2.1 (x.1.map V.int)) ∧ SqT K H b (k.map V.int) ∧ L.length < sizeLine ∧
  ∀ u, RelV v u → Q (upd H a (DTO a (storedH L k b u)))
theorem set_din (hu : X.A.units + 1 < cLine) : PSet X (rDset X.K) := by
  intro pins s σ H o i v ou iu vu Q I ro ri rv ⟨a, b, L, k, eo, ei, ha, hk, hb, hl, q⟩
  subst eo ei
  cases ro; cases ri
  have d := dt0_at I ha
  have hz : L.length ≤ sizeLine := d.sz
  refine wpAny_setItem_heap (knd := TK X.prog X.w) (k := k) (hsz := hz) (tupleKind_room_in1 hu) (I.isT hb) (dt0_of d (keys_at I hk)) fun h' dd hs => ?_
  have hlen : (storedH L k b vu).length ≤ sizeLine := by have := storedH_length L k b vu; omega
  have he : ∃ q, h'.get? a = some q := let ⟨q, _, _, hq, _⟩ := dd; ⟨q, hq⟩
  exact ⟨_, d_write I (by rw [ha]; exact True.intro) hs he (dto_new (dt0_mk dd d.ns hlen)), q vu rv⟩
/-- a pair (key, value) of a list that becomes a dict: its place, the key's ints, the key's place, the value -/
abbrev DPair := Addr × List Int × Addr × V
def DPairOk (h : Heap) (p : DPair) (x : List Int × Addr × Value) : Prop := x.1 = p.2.1 ∧ x.2.1 = p.2.2.1 ∧ RelV p.2.2.2 x.2.2 ∧ IsTup h p.1 #[.ref x.2.1, x.2.2]
theorem dpairs_of (I : Inv X pins σ H s) : ∀ (ps : List DPair), (∀ p ∈ ps, SqT X.K H p.1 [.ref p.2.2.1, p.2.2.2]) → ∃ L0, Paired (DPairOk s.heap) ps L0
  | [], _ => ⟨[], .nil⟩
  | p :: ps, h => by
    obtain ⟨L0, r⟩ := dpairs_of I ps fun x hx => h x (List.mem_cons_of_mem _ hx)
    obtain ⟨its, rv, pl, _⟩ := I.tuple (h p List.mem_cons_self)
    cases rv with
    | cons r1 rr =>
      cases rr with
      | cons r2 rr =>
        cases rr
        cases r1
        exact ⟨(p.2.1, p.2.2.1, _) :: L0, .cons ⟨rfl, rfl, r2, pl⟩ r⟩
def rDnew (K : PySem.W.Frag) : List V → Hp → VK → Prop := fun xs H Q => ∃ (l : Addr) (ps : List DPair), xs = [.ref l] ∧ SqL K H l (ps.map fun p => V.ref p.1) ∧ (∀ p ∈ ps, SqT K H p.1 [.ref p.2.2.1, p.2.2.2] ∧ SqT K H p.2.2.1 (p.2.1.map V.int)) ∧
  ∀ a L0, H a = none → Paired (fun (p : DPair) (x : List Int × Addr × Value) => x.1 = p.2.1 ∧ x.2.1 = p.2.2.1 ∧ RelV p.2.2.2 x.2.2) ps L0 → Q (.ref a) (upd H a (DTO a (storedAllH [] L0)))
theorem call_dnew (hc : X.calm = true) (hu : X.A.units + 3 < cLine) : CallR X (.type "dict") (rDnew X.K) := by
  intro pins s σ H xs us Q I r ⟨l, ps, ex, hl, hp, q⟩
  subst ex
  rw [Vals.ref1 r]
  obtain ⟨its, rv, pl, hz⟩ := I.list hl
  obtain ⟨L0, pr⟩ := dpairs_of I ps fun p h => (hp p h).1
  have el := pr.length
  have ei : its = ps.map fun p => Value.ref p.1 := by
    have : ∀ {qs : List DPair} {us : List Value}, Vals (qs.map fun p => V.ref p.1) us → us = qs.map fun p => Value.ref p.1 := by
      intro qs
      induction qs with
      | nil => intro us h; cases h; rfl
      | cons p qs ih =>
        intro us h
        cases h with
        | cons r t => cases r; rw [ih t]; rfl
    exact this rv
  subst ei
  have keyed : ∀ x ∈ L0, (TK X.prog X.w).is s.heap x.1 x.2.1 := fun x hx => by
    obtain ⟨p, hm, e1, e2, _⟩ := paired_mem pr x hx
    rw [e1, e2]; exact I.isT (hp p hm).2
  have zl : L0.length ≤ sizeLine := by rw [← el]; simpa using hz
  refine call_dict_pairsH (knd := TK X.prog X.w) (ps := L0) (PairArg.list l ((ps.map fun p => Value.ref p.1).toArray) (fun j => (ps[j]?.map (·.1)).getD 0) (L0.map fun x => (Value.ref x.2.1, x.2.2))) (I.ok.hd hc)
    (by show X.A.units + 1 + 1 < cLine; omega) ⟨?ok1, ?ok2, fun j k v e => ?ok3⟩ ⟨by simp, fun i key v e => ?hv⟩ (fun h' hk x hx => ?ks) (by simpa using zl) fun h' tk hd hk => ?fin
  case ok1 =>
    obtain ⟨o, n, h1, h2, h3, h4⟩ := pl
    exact ⟨o, n, h1, h2, h3, h4⟩
  case ok2 => simp [el]
  case ok3 =>
    rw [List.getElem?_map] at e
    cases hx : L0[j]? with
    | none => rw [hx] at e; cases e
    | some x =>
      rw [hx] at e; cases e
      have hj : j < ps.length := by rw [el]; exact (List.getElem?_eq_some_iff.mp hx).1
      obtain ⟨e1, e2, e3, e4⟩ := paired_get (R := DPairOk s.heap) pr (List.getElem?_eq_getElem hj) hx
      refine ⟨by simp [List.getElem?_eq_getElem hj], .inl ?_⟩
      simp only [List.getElem?_eq_getElem hj, Option.map_some, Option.getD_some]
      exact e4
  case hv =>
    rw [PairRel, List.getElem?_map] at e
    cases hx : L0[i]? with
    | none => rw [hx] at e; cases e
    | some x =>
      rw [hx] at e; cases e
      exact ⟨x.1, x.2.1, rfl, rfl⟩
  case ks =>
    exact isT_keep (keyed x hx) fun c o e => hk c o (Nat.ne_of_lt (Heap.lt_size e)) (by simp) e
  case fin =>
    have hm : (s.heap.objs.size == sysModules) = false := beq_eq_false_iff_ne.mpr (Nat.ne_of_gt I.big)
    have hlen : (storedAllH ([] : List (List Int × Addr × Value)) L0).length ≤ sizeLine := by have := storedAllH_length L0 ([] : List (List Int × Addr × Value)); simp at this; omega
    exact ⟨.ref s.heap.objs.size, _, I.laid (t' := tk) (fun b o e => hk b o (by simp) e) (Nat.le_refl _) (dto_new (dt0_mk hd hm hlen)), rfl, q _ L0 (I.hok.fresh (Nat.le_refl _)) (paired_map (fun p x ⟨a, b, c, _⟩ => ⟨a, b, c⟩) pr)⟩
/-- list(d) -/
def rDlist : List V → Hp → VK → Prop := fun xs H Q => ∃ (d : Addr) (L : List (List Int × Addr × Value)), xs = [.ref d] ∧ H d = some (DTO d L) ∧ ∀ p, H p = none → Q (.ref p) (upd H p (.lst (L.map fun x => V.ref x.2.1)))
theorem call_dlist (hc : X.calm = true) : CallR X (.type "list") rDlist := by
  intro pins s σ H xs us Q I r ⟨d, L, ex, hd, q⟩
  subst ex
  rw [Vals.ref1 r]
  have D := dt0_at I hd
  obtain ⟨o, es, ep, ho, hx, hdt, he⟩ := D.ex
  have l1 : es.size = L.length := by rw [← Array.length_toList, he, List.length_map]
  have hz := D.sz
  refine PySem.W.kdl_call (kdl_raw D.ns hx hdt) (I.ok.hd hc) ho (by omega) fun h' tk acc c kp e it => ?_
  have ea : acc.toList = L.map fun x => Value.ref x.2.1 := by
    apply List.ext_getElem?
    intro j
    rw [List.getElem?_map]
    have hl : acc.toList.length = L.length := by rw [Array.length_toList, it.1]; exact l1
    cases hj : acc.toList[j]? with
    | none =>
      have := List.getElem?_eq_none_iff.mp hj
      rw [List.getElem?_eq_none (by omega)]
      rfl
    | some v =>
      obtain ⟨en, hen, hv⟩ := it.2 j v (by rw [← Array.getElem?_toList]; exact hj)
      rw [← Array.getElem?_toList, he, List.getElem?_map] at hen
      cases hb : L[j]? with
      | none => rw [hb] at hen; cases hen
      | some b =>
        rw [hb] at hen; cases hen
        rw [hv]; rfl
  have rv : Vals (L.map fun x => V.ref x.2.1) acc.toList := by
    rw [ea]
    have : ∀ M : List (List Int × Addr × Value), Vals (M.map fun x => V.ref x.2.1) (M.map fun x => Value.ref x.2.1) := fun M => by
      induction M with
      | nil => exact .nil
      | cons x M ih => exact .cons rfl ih
    exact this L
  refine ⟨.ref s.heap.objs.size, _, I.laid (t' := tk) (o := .lst (L.map fun x => V.ref x.2.1)) kp (Nat.le_refl _) ?_, rfl, q _ (I.hok.fresh (Nat.le_refl _))⟩
  exact ⟨by rw [List.length_map]; exact hz, acc.toList, c, rv, by rw [Array.toArray_toList]; exact e⟩
end
end Fx
namespace Fx
open PySem PySem.Spec PyProof.Rows L2
def dHas (ds : List (List Int × PV)) (k : List Int) : Bool := (ds.find? fun x => decide (x.1 = k)).isSome
def dPut (ds : List (List Int × PV)) (k : List Int) (v : PV) : List (List Int × PV) := if dHas ds k then ds.map (fun x => if x.1 = k then (x.1, v) else x) else ds ++ [(k, v)]
def dNew : List PV → List (List Int × PV) → Option (List (List Int × PV))
  | [], ds => some ds
  | .tuple [.tuple xs, v] :: ps, ds => (intsOf xs).bind fun k => dNew ps (dPut ds k v)
  | _, _ => none
def kT : PV → Option (List Int)
  | .tuple xs => intsOf xs
  | _ => none
section
variable {K : PySem.W.Frag} {F : Hp}
theorem RepD.keys : ∀ {L : List (List Int × Addr × Value)} {ds : List (List Int × PV)}, RepD K F L ds → L.map (·.1) = ds.map (·.1)
  | _, _, .nil => rfl
  | _, _, .cons _ _ _ r => by simp [r.keys]
theorem RepD.len {L : List (List Int × Addr × Value)} {ds : List (List Int × PV)} (r : RepD K F L ds) : L.length = ds.length := by
  have := congrArg List.length r.keys
  simpa using this
theorem RepD.sq : ∀ {L : List (List Int × Addr × Value)} {ds : List (List Int × PV)}, RepD K F L ds → ∀ x ∈ L, TupAt K F x.2.1 (x.1.map V.int)
  | _, _, .nil, x, h => nomatch h
  | _, _, .cons a _ _ r, x, h => by
    rcases List.mem_cons.mp h with e | h
    · subst e; exact a
    · exact r.sq x h
theorem RepD.has : ∀ {L : List (List Int × Addr × Value)} {ds : List (List Int × PV)} (k : List Int), RepD K F L ds → (atKey L k).isSome = dHas ds k
  | _, _, k, .nil => rfl
  | _, _, k, .cons (k := k2) _ _ _ r => by
    unfold atKey dHas
    by_cases h : k2 = k
    · simp [h]
    · have := r.has k
      unfold atKey dHas at this
      simp only [List.find?_cons, h, decide_false]
      exact this
theorem RepD.snoc {k : List Int} {b : Addr} {u : Value} {v : V} {d : PV} (h1 : TupAt K F b (k.map V.int)) (h2 : RelV v u) (h3 : Rep K F v d) : ∀ {L : List (List Int × Addr × Value)} {ds : List (List Int × PV)}, RepD K F L ds → RepD K F (L ++ [(k, b, u)]) (ds ++ [(k, d)])
  | _, _, .nil => .cons h1 h2 h3 .nil
  | _, _, .cons a b c r => .cons a b c (r.snoc h1 h2 h3)
theorem RepD.upd {k : List Int} {u : Value} {v : V} {d : PV} (h2 : RelV v u) (h3 : Rep K F v d) : ∀ {L : List (List Int × Addr × Value)} {ds : List (List Int × PV)}, RepD K F L ds → RepD K F (L.map (putAt k u)) (ds.map (fun x => if x.1 = k then (x.1, d) else x))
  | _, _, .nil => .nil
  | _, _, .cons (k := k2) a b c r => by
    simp only [List.map_cons, putAt]
    split
    · exact .cons a h2 h3 (r.upd h2 h3)
    · exact .cons a b c (r.upd h2 h3)
theorem RepD.put {k : List Int} {b : Addr} {u : Value} {v : V} {d : PV} (h1 : TupAt K F b (k.map V.int)) (h2 : RelV v u) (h3 : Rep K F v d) {L : List (List Int × Addr × Value)} {ds : List (List Int × PV)} (r : RepD K F L ds) : RepD K F (storedH L k b u) (dPut ds k d) := by
  unfold storedH dPut
  rw [r.has k]
  split
  · exact r.upd h2 h3
  · exact r.snoc h1 h2 h3
theorem kT_rep {x : V} {p : PV} {k : List Int} (h : Rep K F x p) (e : kT p = some k) : ∃ b, x = .ref b ∧ TupAt K F b (k.map V.int) := by
  cases p with
  | tuple xs =>
    cases h with
    | tup h1 h2 =>
      obtain ⟨e1, _⟩ := h2.ints e
      subst e1
      exact ⟨_, rfl, h1⟩
  | _ => cases e
/-- the pairs of the list -/
theorem dNew_ok : ∀ {ps : List PV} {vs : List V}, RepA K F vs ps → ∀ {ds es : List (List Int × PV)}, dNew ps ds = some es → ∃ qs : List DPair, vs = qs.map (fun p => V.ref p.1) ∧
    (∀ p ∈ qs, TupAt K F p.1 [.ref p.2.2.1, p.2.2.2] ∧ TupAt K F p.2.2.1 (p.2.1.map V.int)) ∧
    ∀ L L0, RepD K F L ds → Paired (fun (p : DPair) (x : List Int × Addr × Value) => x.1 = p.2.1 ∧ x.2.1 = p.2.2.1 ∧ RelV p.2.2.2 x.2.2) qs L0 → RepD K F (storedAllH L L0) es
  | [], _, .nil, ds, es, h => by
    cases h
    exact ⟨[], rfl, (by intro p z; cases z), fun L L0 r p => by cases p; exact r⟩
  | p :: ps, _, .cons (v := x) hp t, ds, es, h => by
    unfold dNew at h
    split at h
    · rename_i e; cases e
    · rename_i ds' xs v ps' e
      cases e
      cases hk : intsOf xs with
      | none => rw [hk] at h; cases h
      | some k =>
        rw [hk] at h
        obtain ⟨qs, e1, e2, e3⟩ := dNew_ok t h
        cases hp with
        | tup h1 h2 =>
          cases h2 with
          | cons h3 h4 =>
            cases h4 with
            | @cons y _ _ _ h5 h6 =>
              cases h6
              obtain ⟨b, rfl, hb⟩ := kT_rep h3 (show kT (.tuple xs) = some k from hk)
              refine ⟨(_, k, b, y) :: qs, by rw [e1]; rfl, fun p hp => ?_, fun L L0 r q => ?_⟩
              · rcases List.mem_cons.mp hp with z | z
                · subst z; exact ⟨h1, hb⟩
                · exact e2 p z
              · cases q with
                | cons q1 q2 =>
                  rename_i x0 L1
                  obtain ⟨k0, b0, u0⟩ := x0
                  obtain ⟨z1, z2, z3⟩ := q1
                  subst z1 z2
                  exact e3 (storedH L _ _ u0) L1 (r.put hb z3 h5) q2
    · cases h
theorem repD_keys : ∀ {L : List (List Int × Addr × Value)} {ds : List (List Int × PV)}, RepD K F L ds → RepA K F (L.map fun x => V.ref x.2.1) (ds.map fun x => .tuple (x.1.map .int))
  | _, _, .nil => .nil
  | _, _, .cons a _ _ r => .cons (.tup a (repA_ints _)) (repD_keys r)
end
/-- a code object is no dict -/
theorem code_ne {c : Addr} {q : Str} {L : List (List Int × Addr × Value)} : LamX.CodeO c q ≠ DTO c L := fun z => by
  unfold LamX.CodeO DTO at z
  injection z with z
  have e := congrFun z ⟨Array.replicate (c + 1) { cls := .none, data := .fields #[.none, .str q 0] }, {}⟩
  have g : (⟨Array.replicate (c + 1) { cls := .none, data := .fields #[.none, .str q 0] }, {}⟩ : Heap).get? c = some { cls := .none, data := .fields #[.none, .str q 0] } := by
    unfold Heap.get?
    simp
  have h := e.mp ⟨_, _, 0, g, rfl, rfl⟩
  obtain ⟨o, es, ep, h1, _, h2, _⟩ := h.ex
  rw [g] at h1
  cases h1
  cases h2
theorem tabs_dto {T : List (Addr × Str)} {H : Hp} {a : Addr} {o : HO} {L : List (List Int × Addr × Value)} (t : LamX.Tabs T H) (e : H a = some (DTO a L)) : LamX.Tabs T (upd H a o) := fun p hp => by
  obtain ⟨ps, e1, t1, t2⟩ := t p hp
  refine ⟨ps, by rw [upd_ne fun z => by rw [z, e] at e1; cases e1]; exact e1, t1, fun pos cv hc => ?_⟩
  obtain ⟨c, c1, c2⟩ := t2 pos cv hc
  refine ⟨c, c1, ?_⟩
  rw [upd_ne fun z => ?_]
  · exact c2
  · subst z
    rw [e] at c2
    exact code_ne (Option.some.inj c2).symm
section
variable {K : PySem.W.Frag} {C : Cf} {F H F1 H1 : Hp} {O O1 : Own} {σ : L2.St} {ρ : En}
/-- the dict is written -/
theorem Rel.writeD {i : Nat} {a : Addr} {L L' : List (List Int × Addr × Value)} {ds : List (List Int × PV)} (r : Rel K C F O σ H ρ) (hv : σ[i]? = some (some (.ref a))) (ha : Is (O i) a) (e : H a = some (DTO a L)) (q : RepD K F L' ds) :
    Step F H O F (upd H a (DTO a L')) O ∧ Rel K C F O σ (upd H a (DTO a L')) (ρ.set i (some (.d ds))) := by
  obtain ⟨nF, u, hu, _⟩ := r.out i a ha.self
  refine ⟨⟨.refl _, fun _ h => .inl h, fun b w h n => ?_, fun j b h => .inl ⟨j, h⟩⟩, ⟨fun b w h => ?_, by rw [List.length_set]; exact r.len, fun j p' h => ?_, r.inj, fun j b h => ?_, r.io, tabs_dto r.tabs e, r.nt⟩⟩
  · rw [upd_ne fun z => n i (by rw [z]; exact ha.self)]; exact .inl h
  · rw [upd_ne fun z => by rw [z, nF] at h; cases h]; exact r.sub b w h
  · rcases getElem_set h with ⟨z, z2, _⟩ | ⟨n, h⟩
    · subst z; cases z2; exact ⟨_, hv, .d ha upd_same q⟩
    · obtain ⟨v, h1, h2⟩ := r.sl j p' h
      refine ⟨v, h1, h2.mono (.refl _) (fun b hb => ?_) (fun b q hq => ?_)⟩
      · rw [upd_ne fun z => n (r.inj j i a (by rw [← z]; exact hb) ha.self)]
      · rw [upd_ne fun z => by subst z; rw [e] at hq; exact code_ne (Option.some.inj hq).symm]; exact hq
  · by_cases z : b = a
    · subst z; exact ⟨nF, _, upd_same, fun ps z => nomatch z⟩
    · rw [upd_ne z]; exact r.out j b h
/-- a new dict goes into a slot -/
theorem Rel.putD {i : Nat} {a : Addr} {L : List (List Int × Addr × Value)} {ds : List (List Int × PV)} (r : Rel K C F O σ H ρ) (hi : i ∉ C.ioS) (n : H a = none) (q : RepD K F L ds) :
    Step F H O F (upd H a (DTO a L)) (Fx.putO O i a) ∧ Rel K C F (Fx.putO O i a) (σ.set i (some (.ref a))) (upd H a (DTO a L)) (ρ.set i (some (.d ds))) := by
  obtain ⟨r1, s1⟩ := r.alloc (o := DTO a L) n
  obtain ⟨nF, nO⟩ := r.free n
  have le : ∀ {j b}, Fx.putO O i a j b → (j = i ∧ b = a) ∨ (j ≠ i ∧ O j b) := fun {j b} h => h
  refine ⟨⟨s1.ext, s1.new, s1.frm, fun j b h => ?_⟩, ⟨r1.sub, by rw [List.length_set, List.length_set]; exact r1.len, fun j p' h => ?_, fun j k b h1 h2 => ?_, fun j b h => ?_, fun p' hp => ?_, r1.tabs, r1.nt⟩⟩
  · rcases le h with ⟨_, z⟩ | ⟨_, z⟩
    · subst z; exact .inr (.none n)
    · exact .inl ⟨j, z⟩
  · rcases getElem_set h with ⟨z, z2, hl⟩ | ⟨nn, h⟩
    · subst z; cases z2
      exact ⟨_, List.getElem?_set_self (by rw [← r1.len]; exact hl), .d putO_is upd_same q⟩
    · obtain ⟨v, h1, h2⟩ := r1.sl j p' h
      refine ⟨v, by rw [List.getElem?_set_ne (Ne.symm nn)]; exact h1, ?_⟩
      rw [putO_ne nn]; exact h2
  · rcases le h1 with ⟨z1, z2⟩ | ⟨z1, z2⟩
    · rcases le h2 with ⟨w1, w2⟩ | ⟨w1, w2⟩
      · rw [z1, w1]
      · subst z2; exact absurd w2 (nO k)
    · rcases le h2 with ⟨w1, w2⟩ | ⟨w1, w2⟩
      · subst w2; exact absurd z2 (nO j)
      · exact r1.inj j k b z2 w2
  · rcases le h with ⟨_, z⟩ | ⟨_, z⟩
    · subst z; exact ⟨nF, _, upd_same, fun ps z => nomatch z⟩
    · exact r1.out j b z
  · rw [putO_ne fun z => hi (by rw [← z]; exact (List.of_mem_zip (show (p'.1, p'.2) ∈ C.ioS.zip C.ioA from hp)).1)]
    exact r1.io p' hp
end
section
variable {X : Cx} {C : Cf} {a e : Expr} {fa f : En → RE PV} {i : Nat} {y : Str} {py pos : Pos}
@[simp] def bDin (i : Nat) (fa : En → RE PV) (ρ : En) : RE Bool := (fa ρ).bind fun v ρ1 => match kT v, ρ1.at i with
  | some k, some (.d ds) => .ok (dHas ds k) ρ1
  | _, _ => .bad
theorem tv_din (hu : X.A.units + 1 < cLine) (ha : EV X C .sh a fa) (hy : PE X (.Name y py) (tVar i)) (hm : behindInMarks .In (.Name y py) = false := by rfl) : TV X C (.Compare a [.In] [.Name y py] pos) (bDin i fa) := by
  refine PT.imp (pt_cmpR (op_din hu) ha hy hm) fun σ H Q ⟨F, O, ρ, r, q⟩ => ?_
  unfold bDin at q
  refine tE.bind r (fun v ρ1 F1 O1 H1 x e1 s1 r1 p1 => ?_) (fun c ρ1 e1 => ?_) fun e1 => ?_
  · rw [e1] at q
    simp only [RE.bind] at q
    have p1 : Rep X.K F1 x v := p1
    split at q
    · rename_i k ds hk hd
      obtain ⟨w, hw, sl⟩ := r1.get hd
      cases sl with
      | d ho hH hD =>
        obtain ⟨b, rfl, hb⟩ := kT_rep p1 hk
        refine ⟨_, hw, _, b, _, k, rfl, rfl, hH, fun x hx => same_sqT r1.sub (hD.sq x hx).sq, same_sqT r1.sub hb.sq, _, rfl, ?_⟩
        rw [hD.has k]
        exact q F1 O1 H1 s1 r1
    · exact q.elim
  · rw [e1] at q; exact q
  · rw [e1] at q; exact q.elim
/-- y = dict(pairs) -/
@[simp] def sDnew (i : Nat) (fa : En → RE (List PV)) (ρ : En) : SR := match fa ρ with
  | .ok [.list ps] ρ1 => (match dNew ps [] with | some ds => .nx (ρ1.set i (some (.d ds))) | none => .bad)
  | .exc c ρ1 => .exc c ρ1
  | _ => .bad
theorem sv_dnew {fa : En → RE (List PV)} {spos cp np : Pos} (hu : X.A.units + 3 < cLine) (hc : X.calm = true) (hg : Gl X "dict") (hm : X.mg "dict" = none) (ha : AV X C .rd [e] fa) (hi : i ∉ C.ioS) (hN : X.N.Nodup) (hn : X.N[i]? = some y) (hx : Loc X.env.scope y)
    (he : starEach [e] X.env = (false, eval e X.env) :: starEach [] X.env := by rfl) (hpl : (backTo cp (starEach [] X.env)).any (·.1) = false := by rfl)
    (hs : swapsWith (.Call (.Name "dict" np) [e] [] cp) (some (.Name y py)) spos.line X.env = pure false := by rfl) (hf : X.fn y = true ∨ X.env.scope.names.lookup y = some .local := by first | exact .inl rfl | exact .inr rfl | assumption) :
    SV X C (.Assign [.Name y py] (.Call (.Name "dict" np) [e] [] cp) spos) (sDnew i fa) := by
  refine PS.imp (ps_set hN hn hx (pe_callTy (call_dnew hc hu) hg hm (by decide +kernel) ha (by decide) (by decide) he hpl) hs hf) fun D σ H ⟨F, O, ρ, r, q⟩ => ?_
  unfold sDnew at q
  refine tA.bind r (fun v ρ1 F1 O1 H1 x e1 s1 r1 p1 => ?_) (fun c ρ1 e1 => ?_) fun e1 => ?_
  · rw [e1] at q
    split at q
    · rename_i ps ρ2 e2
      cases e2
      split at q
      · rename_i ds hd
        obtain ⟨z, rfl, hz⟩ := RepRA.one p1
        obtain ⟨l, vs, rfl, hl, hv⟩ := hz.list r1.sub
        obtain ⟨qs, e3, e4, e5⟩ := dNew_ok hv hd
        refine ⟨l, qs, rfl, .of (by rw [← e3]; exact hl), fun p hp => ⟨same_sqT r1.sub (e4 p hp).1.sq, same_sqT r1.sub (e4 p hp).2.sq⟩, fun a L0 n pr => ?_⟩
        obtain ⟨s2, r2⟩ := r1.putD hi n (e5 [] L0 .nil pr)
        exact q F1 _ _ _ (s1.trans s2) r2
      · exact q.elim
    · rename_i e2; cases e2
    · exact q.elim
  · rw [e1] at q; exact exc_s q
  · rw [e1] at q; exact q.elim
/-- y[k] = e -/
@[simp] def sDset (i : Nat) (fk fv : En → RE PV) (ρ : En) : SR := (fv ρ).toS fun v ρ1 => match ρ1.at i with
  | none => .bad
  | some _ => (fk ρ1).toS fun k ρ2 => match kT k, ρ2.at i with
    | some ks, some (.d ds) => if ds.length < 16777216 then .nx (ρ2.set i (some (.d (dPut ds ks v)))) else .bad
    | _, _ => .bad
theorem sv_dset {x : Str} {ix : Expr} {px ps : Pos} {fi : En → RE PV} (hu : X.A.units + 1 < cLine) (hx : PE X (.Name x px) (tVar i)) (hi : EV X C .sh ix fi) (h : EV X C .sh e f) (hs : swapsWithSole [.Subscript (.Name x px) ix ps] e pos.line X.env = pure false := by rfl) (hw : swappedStores [.Subscript (.Name x px) ix ps] e X.env = pure none := by rfl)
    (h1 : (assignEach [.Subscript (.Name x px) ix ps] X.env).map (·.2) = [assign (.Subscript (.Name x px) ix ps) X.env] := by rfl)
    (ha : ∀ v, assign (.Subscript (.Name x px) ix ps) X.env v = (do
      let ov ← holding [v] (eval (.Name x px) X.env)
      let iv ← holding [v, ov] (eval ix X.env)
      standAt ps
      holding [v, ov, iv] (setItem ov iv v)
      release [v, ov, iv] []) := by intro _; rfl) : SV X C (.Assign [.Subscript (.Name x px) ix ps] e pos) (sDset i fi f) := by
  refine PS.imp (ps_asg h (pg_sub hx hi (set_din hu) ha) hs hw h1) fun D σ H ⟨F, O, ρ, r, q⟩ => ?_
  unfold sDset at q
  refine tE.bind r (fun v ρ1 F1 O1 H1 z e1 s1 r1 p1 => ?_) (fun c ρ1 e1 => ?_) fun e1 => ?_
  · rw [e1] at q
    simp only [RE.toS] at q
    have p1 : Rep X.K F1 z v := p1
    split at q
    · exact q.elim
    · rename_i p0 h0
      obtain ⟨y0, hy0, _⟩ := r1.get h0
      refine ⟨y0, hy0, ?_⟩
      refine tE.bind r1 (fun w ρ2 F2 O2 H2 y e2 s2 r2 p2 => ?_) (fun c ρ2 e2 => ?_) fun e2 => ?_
      · rw [e2] at q
        simp only at q
        have p2 : Rep X.K F2 y w := p2
        split at q
        · rename_i ks ds hk hd
          split at q
          · rename_i hlen
            obtain ⟨y1, hy1, sl⟩ := r2.get hd
            rw [hy0] at hy1; cases hy1
            obtain ⟨b, rfl, hb⟩ := kT_rep p2 hk
            cases sl with
            | d ho hH hD =>
              refine ⟨_, b, _, ks, rfl, rfl, hH, fun x hx => same_sqT r2.sub (hD.sq x hx).sq, same_sqT r2.sub hb.sq, by rw [hD.len, sizeLine_eq]; exact hlen, fun u ru => ?_⟩
              obtain ⟨s3, r3⟩ := r2.writeD hy0 ho hH (hD.put hb ru (p1.mono s2.ext))
              exact q F2 O2 σ _ ((s1.trans s2).trans s3) r3
          · exact q.elim
        · exact q.elim
      · rw [e2] at q; exact ExcP.from s1 (exc_s q)
      · rw [e2] at q; exact q.elim
  · rw [e1] at q; exact exc_s q
  · rw [e1] at q; exact q.elim
/-- list(y) -/
@[simp] def eDlist (i : Nat) (ρ : En) : RE PV := match ρ.at i with
  | some (.d ds) => .ok (.list (ds.map fun x => .tuple (x.1.map .int))) ρ
  | _ => .bad
theorem ev_dlist {np cp : Pos} (hc : X.calm = true) (hg : Gl X "list") (hm : X.mg "list" = none) (hy : PE X (.Name y py) (tVar i)) (he : starEach [.Name y py] X.env = (false, eval (.Name y py) X.env) :: starEach [] X.env := by rfl) (hpl : (backTo cp (starEach [] X.env)).any (·.1) = false := by rfl) :
    EV X C .fr (.Call (.Name "list" np) [.Name y py] [] cp) (eDlist i) := by
  refine PE.imp (pe_callTy (call_dlist hc) hg hm (by decide +kernel) (pa_cons hy pa_nil he) (by decide) (by decide) he hpl) fun σ H Q ⟨F, O, ρ, r, q⟩ => ?_
  unfold eDlist at q
  split at q
  · rename_i ds hd
    obtain ⟨w, hw, sl⟩ := r.get hd
    cases sl with
    | d ho hH hD =>
      refine ⟨_, hw, _, _, rfl, hH, fun p n => ?_⟩
      obtain ⟨s2, r2, f2⟩ := r.newList n (repD_keys hD)
      exact q F O _ _ s2 r2 ⟨p, rfl, f2⟩
  · exact q.elim
end
end Fx
namespace Fx
open PySem PySem.Spec PyProof.Rows L2
section
variable {α : Type}
/-- laid in by a key, behind the lesser ones -/
def insK (f : α → Int) (x : α) : List α → List α
  | [] => [x]
  | y :: l => if f x ≤ f y then x :: y :: l else y :: insK f x l
def sortK (f : α → Int) : List α → List α
  | [] => []
  | x :: l => insK f x (sortK f l)
theorem insK_perm (f : α → Int) (x : α) : ∀ l, (insK f x l).Perm (x :: l)
  | [] => .refl _
  | y :: l => by
    unfold insK
    split
    · exact .refl _
    · exact ((insK_perm f x l).cons y).trans (.swap x y l)
theorem sortK_perm (f : α → Int) : ∀ l, (sortK f l).Perm l
  | [] => .refl _
  | x :: l => (insK_perm f x _).trans ((sortK_perm f l).cons x)
theorem insK_sorted (f : α → Int) (x : α) : ∀ {l : List α}, l.Pairwise (fun a b => f a ≤ f b) → (insK f x l).Pairwise (fun a b => f a ≤ f b)
  | [], _ => by unfold insK; exact List.pairwise_singleton _ _
  | y :: l, h => by
    obtain ⟨h1, h2⟩ := List.pairwise_cons.mp h
    unfold insK
    split
    · rename_i c
      refine List.pairwise_cons.mpr ⟨fun z hz => ?_, h⟩
      rcases List.mem_cons.mp hz with e | hz
      · subst e; exact c
      · exact Int.le_trans c (h1 z hz)
    · rename_i c
      refine List.pairwise_cons.mpr ⟨fun z hz => ?_, insK_sorted f x h2⟩
      rcases List.mem_cons.mp ((insK_perm f x l).mem_iff.mp hz) with e | hz
      · subst e; omega
      · exact h1 z hz
theorem sortK_sorted (f : α → Int) : ∀ l : List α, (sortK f l).Pairwise (fun a b => f a ≤ f b)
  | [] => .nil
  | x :: l => insK_sorted f x (sortK_sorted f l)
/-- two risings of the same things, where the key tells them apart -/
theorem rising_unique {f : α → Int} : ∀ {l m : List α}, l.Perm m → l.Pairwise (fun a b => f a ≤ f b) → m.Pairwise (fun a b => f a ≤ f b) → (∀ a ∈ l, ∀ b ∈ l, f a = f b → a = b) → l = m
  | [], m, p, _, _, _ => by rw [List.nil_perm.mp p]
  | x :: l, [], p, _, _, _ => by have := p.length_eq; simp at this
  | x :: l, y :: m, p, h1, h2, inj => by
    obtain ⟨a1, a2⟩ := List.pairwise_cons.mp h1
    obtain ⟨b1, b2⟩ := List.pairwise_cons.mp h2
    have hx : x ∈ y :: m := p.mem_iff.mp List.mem_cons_self
    have hy : y ∈ x :: l := p.mem_iff.mpr List.mem_cons_self
    have le1 : f x ≤ f y := by
      rcases List.mem_cons.mp hy with e | h
      · subst e; exact Int.le_refl _
      · exact a1 y h
    have le2 : f y ≤ f x := by
      rcases List.mem_cons.mp hx with e | h
      · subst e; exact Int.le_refl _
      · exact b1 x h
    have e : x = y := inj x List.mem_cons_self y hy (Int.le_antisymm le1 le2)
    subst e
    rw [rising_unique (List.Perm.cons_inv p) a2 b2 fun a ha b hb => inj a (List.mem_cons_of_mem _ ha) b (List.mem_cons_of_mem _ hb)]
end
theorem perm_lift {α β : Type} (f : α → β) {ys zs : List β} (p : ys.Perm zs) : ∀ {ps : List α}, zs = ps.map f → ∃ qs : List α, qs.Perm ps ∧ ys = qs.map f := by
  induction p with
  | nil => intro ps h; exact ⟨ps, .refl _, h⟩
  | cons x p ih =>
    intro ps h
    cases ps with
    | nil => cases h
    | cons a ps =>
      rw [List.map_cons] at h
      injection h with h1 h2
      obtain ⟨qs, q1, q2⟩ := ih h2
      exact ⟨a :: qs, q1.cons a, by rw [List.map_cons, ← h1, ← q2]⟩
  | swap x y l =>
    intro ps h
    cases ps with
    | nil => cases h
    | cons a ps =>
      cases ps with
      | nil => cases h
      | cons b ps =>
        rw [List.map_cons, List.map_cons] at h
        injection h with h1 h2
        injection h2 with h2 h3
        exact ⟨b :: a :: ps, .swap a b ps, by rw [List.map_cons, List.map_cons, ← h1, ← h2, ← h3]⟩
  | trans p q ihp ihq =>
    intro ps h
    obtain ⟨qs, q1, q2⟩ := ihq h
    obtain ⟨rs, r1, r2⟩ := ihp q2
    exact ⟨rs, r1.trans q1, r2⟩
def tupP (ns : List Int) : PV := .tuple (ns.map .int)
def rowsP : List PV → Option (List (List Int))
  | [] => some []
  | .tuple xs :: r => (intsOf xs).bind fun k => (rowsP r).map (k :: ·)
  | _ => none
def okRow (d : Nat) (n : List Int) : Bool := n.length == d && n.all fun i => decide (0 ≤ i) && decide (i < 64)
def okRows (l : List (List Int)) : Bool := decide (l.length < 64) && match l with
  | [] => true
  | n :: _ => decide (1 ≤ n.length) && l.all (okRow n.length)
def key64 (n : List Int) : Int := TS.code 64 n
def sortV : List PV → Option PV
  | [.list xs] => match intsOf xs with
    | some ns => some (.list ((sortK id ns).map .int))
    | none => (rowsP xs).bind fun l => if okRows l then some (.list ((sortK key64 l).map tupP)) else none
  | _ => none
theorem code_inj : ∀ {n m : List Int}, n.length = m.length → TS.Bd 64 n → TS.Bd 64 m → TS.code 64 n = TS.code 64 m → n = m
  | [], [], _, _, _, _ => rfl
  | [], _ :: _, h, _, _, _ => by cases h
  | _ :: _, [], h, _, _, _ => by cases h
  | a :: n, b :: m, h, ha, hb, e => by
    have hl : n.length = m.length := by simpa using h
    have bound : ∀ {k : List Int}, TS.Bd 64 k → 0 ≤ TS.code 64 k ∧ TS.code 64 k < 64 ^ k.length := fun {k} hk => by
      induction k with
      | nil => exact ⟨Int.le_refl _, by show (0 : Int) < 1; omega⟩
      | cons d r ih =>
        obtain ⟨i1, i2⟩ := ih hk.tail
        obtain ⟨d0, d1⟩ := hk.head
        have z := TS.num1 i1 i2 d0 d1
        refine ⟨z.1, ?_⟩
        have : (64 : Int) ^ (d :: r).length = 64 ^ r.length * 64 := by rw [List.length_cons, Int.pow_succ]
        rw [this]
        exact z.2
    obtain ⟨n0, n1⟩ := bound ha.tail
    obtain ⟨m0, m1⟩ := bound hb.tail
    have e : a * 64 ^ n.length + TS.code 64 n = b * 64 ^ m.length + TS.code 64 m := e
    rw [hl] at e n1
    have P0 : (0 : Int) < 64 ^ m.length := Int.pow_pos (by omega)
    generalize (64 : Int) ^ m.length = P at *
    have hab : a = b := by
      have h1 : (a * P + TS.code 64 n) / P = a := by
        rw [Int.add_comm, Int.add_mul_ediv_right _ _ (by omega), Int.ediv_eq_zero_of_lt n0 n1, Int.zero_add]
      have h2 : (b * P + TS.code 64 m) / P = b := by
        rw [Int.add_comm, Int.add_mul_ediv_right _ _ (by omega), Int.ediv_eq_zero_of_lt m0 m1, Int.zero_add]
      rw [← h1, e, h2]
    subst hab
    rw [code_inj hl ha.tail hb.tail (by omega)]
theorem okRow_bd {d : Nat} {n : List Int} (h : okRow d n = true) : n.length = d ∧ TS.Bd 64 n := by
  unfold okRow at h
  simp only [Bool.and_eq_true, beq_iff_eq, List.all_eq_true, decide_eq_true_eq] at h
  exact ⟨h.1, h.2⟩
theorem okRows_bd {l : List (List Int)} (h : okRows l = true) : l.length < 64 ∧ ∃ d, 1 ≤ d ∧ ∀ n ∈ l, n.length = d ∧ TS.Bd 64 n := by
  unfold okRows at h
  simp only [Bool.and_eq_true, decide_eq_true_eq] at h
  refine ⟨h.1, ?_⟩
  cases l with
  | nil => exact ⟨1, Nat.le_refl _, fun n h => nomatch h⟩
  | cons n l =>
    have h2 := h.2
    simp only [Bool.and_eq_true, decide_eq_true_eq] at h2
    exact ⟨n.length, h2.1, fun m hm => okRow_bd (List.all_eq_true.mp h2.2 m hm)⟩
section
variable {K : PySem.W.Frag} {F H : Hp}
theorem rows_rep : ∀ {vs : List V} {xs : List PV} {l : List (List Int)}, RepA K F vs xs → rowsP xs = some l → ∃ ps : List (Addr × List Int), vs = ps.map (fun p => V.ref p.1) ∧ l = ps.map (·.2) ∧ ∀ p ∈ ps, TupAt K F p.1 (p.2.map V.int)
  | _, [], l, .nil, h => by cases h; exact ⟨[], rfl, rfl, by intro p z; cases z⟩
  | _, x :: xs, l, .cons hx t, h => by
    unfold rowsP at h
    split at h
    · rename_i e; cases e
    · rename_i ys r e
      cases e
      cases hk : intsOf ys with
      | none => rw [hk] at h; cases h
      | some k =>
        rw [hk] at h
        cases hr : rowsP xs with
        | none => simp [hr] at h
        | some l2 =>
          simp only [Option.bind_some, hr, Option.map_some, Option.some.injEq] at h
          subst h
          obtain ⟨ps, e1, e2, e3⟩ := rows_rep t hr
          obtain ⟨b, rfl, hb⟩ := kT_rep hx (show kT (.tuple ys) = some k from hk)
          refine ⟨(b, k) :: ps, by rw [e1]; rfl, by rw [e2]; rfl, fun p hp => ?_⟩
          rcases List.mem_cons.mp hp with z | z
          · subst z; exact hb
          · exact e3 p z
    · cases h
theorem repA_rows : ∀ {ps : List (Addr × List Int)}, (∀ p ∈ ps, TupAt K F p.1 (p.2.map V.int)) → RepA K F (ps.map fun p => V.ref p.1) ((ps.map (·.2)).map tupP)
  | [], _ => .nil
  | p :: ps, h => .cons (.tup (h p List.mem_cons_self) (repA_ints _)) (repA_rows fun q hq => h q (List.mem_cons_of_mem _ hq))
end
end Fx
namespace Fx
open PySem PySem.Spec PyProof.Rows L2
abbrev set0 (w : World) : Obj := { cls := .type "set", dict := none, data := .set #[] 0 (.fresh 0 0 (!w.params.followText "set-order")) }
section
variable {P : Program} {w : World} {A : Around} {E : Value → Shared → Prop} {s : Shared}
/-- what set(xs) made -/
def SetMade (P : Program) (w : World) (s : Shared) (ks : List (Addr × List Int)) (h' : Heap) : Prop :=
  ∃ (L : List (Addr × List Int)) (es : Array (Int × Value)) (ep : Nat) (t : SetTable), SetTR P w h' s.heap.objs.size L es ep t ∧ Got ks ks.length L ∧ ∀ b o, s.heap.get? b = some o → h'.get? b = some o
end
end Fx
namespace Fx
open PySem PySem.Spec PyProof.Rows L2
/-- without the same again -/
def nubL {α : Type} [DecidableEq α] : List α → List α
  | [] => []
  | x :: l => if x ∈ nubL l then nubL l else x :: nubL l
theorem nubL_mem {α : Type} [DecidableEq α] {y : α} : ∀ {l : List α}, y ∈ nubL l ↔ y ∈ l
  | [] => Iff.rfl
  | x :: l => by
    unfold nubL
    split
    · rename_i h
      rw [nubL_mem (l := l)]
      constructor
      · exact List.mem_cons_of_mem _
      · intro z
        rcases List.mem_cons.mp z with e | z
        · subst e; exact nubL_mem.mp h
        · exact z
    · rw [List.mem_cons, List.mem_cons, nubL_mem (l := l)]
theorem nubL_nodup {α : Type} [DecidableEq α] : ∀ l : List α, (nubL l).Nodup
  | [] => List.nodup_nil
  | x :: l => by
    unfold nubL
    split
    · exact nubL_nodup l
    · rename_i h
      exact List.nodup_cons.mpr ⟨h, nubL_nodup l⟩
theorem nodup_perm {α : Type} [DecidableEq α] : ∀ {l m : List α}, l.Nodup → m.Nodup → (∀ x, x ∈ l ↔ x ∈ m) → l.Perm m
  | [], m, _, _, h => by
    cases m with
    | nil => exact .refl _
    | cons y m => exact absurd ((h y).mpr List.mem_cons_self) (by simp)
  | x :: l, m, hl, hm, h => by
    obtain ⟨h1, h2⟩ := List.nodup_cons.mp hl
    have hx : x ∈ m := (h x).mp List.mem_cons_self
    have p1 : m.Perm (x :: m.erase x) := List.perm_cons_erase hx
    have nd := (p1.nodup_iff.mp hm)
    obtain ⟨n1, n2⟩ := List.nodup_cons.mp nd
    refine ((nodup_perm h2 n2 fun y => ?_).cons x).trans p1.symm
    constructor
    · intro hy
      have : y ∈ x :: m.erase x := p1.mem_iff.mp ((h y).mp (List.mem_cons_of_mem _ hy))
      rcases List.mem_cons.mp this with e | z
      · subst e; exact absurd hy h1
      · exact z
    · intro hy
      have : y ∈ x :: l := (h y).mpr (p1.mem_iff.mpr (List.mem_cons_of_mem _ hy))
      rcases List.mem_cons.mp this with e | z
      · subst e; exact absurd hy n1
      · exact z
def sortSetV : PV → Option PV
  | .list xs => (rowsP xs).bind fun l => if okRows l then some (.list ((sortK key64 (nubL l)).map tupP)) else none
  | .tuple xs => (rowsP xs).bind fun l => if okRows l then some (.list ((sortK key64 (nubL l)).map tupP)) else none
  | _ => none
@[simp] def eSortSet (fa : En → RE (List PV)) (ρ : En) : RE PV := (fa ρ).bind fun vs ρ1 => match vs with
  | [v] => (match sortSetV v with | some u => .ok u ρ1 | none => .bad)
  | _ => .bad
theorem u1 {k : Nat} {A : Around} (r : Room k A) : A.units + 1 < cLine := by have := r.un; omega
theorem u3 {k : Nat} {A : Around} (r : Room k A) : A.units + 3 < cLine := by have := r.un; omega
end Fx
namespace Fx
open PySem PySem.Spec PyProof.Rows L2
def cutL {α : Type} (xs : List α) (lo hi : Option Int) : List α := (xs.drop (HT.sIx xs.length 0 lo)).take (HT.sIx xs.length xs.length hi - HT.sIx xs.length 0 lo)
theorem RepA.cut {K : PySem.W.Frag} {F : Hp} {v : List V} {d : List PV} (h : RepA K F v d) (lo hi : Option Int) : RepA K F (cutV v lo hi) (cutL d lo hi) := by
  unfold cutV cutL
  rw [h.length]
  exact (h.drop _).take _
/-- a tuple's slice, the new tuple's object told -/
def rSlF (K : PySem.W.Frag) : V → Option Int → Option Int → Hp → VK → Prop := fun x lo hi H Q => ∃ a xs, x = .ref a ∧ SqT K H a xs ∧
  (HT.sIx xs.length 0 lo = 0 ∧ HT.sIx xs.length xs.length hi = xs.length → Q (.ref a) H) ∧ (¬ (HT.sIx xs.length 0 lo = 0 ∧ HT.sIx xs.length xs.length hi = xs.length) → ∀ p o, H p = none → o.dict = none → Q (.ref p) (upd H p (.frz o (.tup (cutV xs lo hi)))))
theorem sl_tupF {X : Cx} : SlR X (rSlF X.K) := by
  intro pins s σ H x v vl vu lo hi sl Q I rx hs pl pu h
  obtain ⟨a, xs, ex, hx, q1, q2⟩ := h
  subst ex
  by_cases hw : HT.sIx xs.length 0 lo = 0 ∧ HT.sIx xs.length xs.length hi = xs.length
  · exact sl_tupA pins s σ H _ v vl vu lo hi sl Q I rx hs pl pu ⟨a, xs, rfl, hx, q1, fun n => absurd hw n⟩
  · cases rx
    obtain ⟨its, r, ht, hz⟩ := I.tuple hx
    have hlen : its.toArray.size = xs.length := by rw [List.size_toArray]; exact r.length.symm
    refine ⟨"tuple", _, PyProof.Rows.slot_tuple_getitem.lookup, ht.typeIs, ?_⟩
    refine HT.getItem_tuple_cut ht hs pl pu (by rw [hlen]; exact hw) ?_ (by rw [hlen]; exact hz)
    rw [hlen]
    have rc : Vals (cutV xs lo hi) ((its.drop (HT.sIx xs.length 0 lo)).take (HT.sIx xs.length xs.length hi - HT.sIx xs.length 0 lo)) := (r.drop _).take _
    exact ⟨.ref s.heap.objs.size, _, I.laid (t' := s.toks) (fun b ob q => Heap.get?_push_of_some _ q) (Nat.le_refl _) (frz_new (Nat.le_trans (cutV_length xs lo hi) hz) rc (Heap.get?_push_size _ rfl)), rfl, q2 hw _ _ (I.hok.fresh (Nat.le_refl _)) rfl⟩
def sliceV (v : PV) (lo hi : Option Int) : Option PV := match v with
  | .list xs => some (.list (cutL xs lo hi))
  | .tuple xs => some (.tuple (cutL xs lo hi))
  | .str z => if z.length ≤ 16777216 then some (.str (cutS z lo hi)) else none
  | _ => none
section
variable (K : PySem.W.Frag) (C : Cf)
def PostO (F H : Hp) (O : Own) (σ : L2.St) (Q : Option Int → Hp → Prop) : RE (Option Int) → Prop
  | .ok v ρ' => ∀ F' O' H', Step F H O F' H' O' → Rel K C F' O' σ H' ρ' → Q v H'
  | .exc c ρ' => ExcP K C F H O σ c ρ'
  | .bad => False
def tBd (f : En → RE (Option Int)) : TO := fun σ H Q => ∃ F O ρ, Rel K C F O σ H ρ ∧ PostO K C F H O σ Q (f ρ)
end
theorem tBd.bind {K : PySem.W.Frag} {C : Cf} {F H : Hp} {O : Own} {σ : L2.St} {ρ : En} {f : En → RE (Option Int)} {Q : Option Int → Hp → Prop} (r : Rel K C F O σ H ρ)
    (ok : ∀ v ρ1 F1 O1 H1, f ρ = .ok v ρ1 → Step F H O F1 H1 O1 → Rel K C F1 O1 σ H1 ρ1 → Q v H1) (ex : ∀ c ρ1, f ρ = .exc c ρ1 → ExcP K C F H O σ c ρ1) (nb : f ρ ≠ .bad) : tBd K C f σ H Q := by
  refine ⟨F, O, ρ, r, ?_⟩
  cases e : f ρ with
  | ok v ρ1 => exact fun F1 O1 H1 s1 r1 => ok v ρ1 F1 O1 H1 e s1 r1
  | exc c ρ1 => exact ex c ρ1 e
  | bad => exact absurd e nb
def BV (X : Cx) (C : Cf) (e : Option Expr) (f : En → RE (Option Int)) : Prop := PO X e (tBd X.K C f)
@[simp] def oNo (ρ : En) : RE (Option Int) := .ok none ρ
@[simp] def oAt (f : En → RE PV) (ρ : En) : RE (Option Int) := (f ρ).bind fun v ρ1 => match v with | .int i => .ok (some i) ρ1 | _ => .bad
section
variable {X : Cx} {C : Cf} {e : Expr} {f : En → RE PV} {lo hi : Option Expr} {fl fh : En → RE (Option Int)} {pos p2 : Pos}
theorem bv_no : BV X C none oNo := ⟨fun pins s σ H Q I ⟨F, O, ρ, r, q⟩ => po_none.run pins s σ H Q I (q F O H .refl r)⟩
theorem bv_at (h : EV X C .sh e f) : BV X C (some e) (oAt f) := by
  refine ⟨fun pins s σ H Q I ⟨F, O, ρ, r, q⟩ => (po_some h).run pins s σ H Q I ?_⟩
  unfold oAt at q
  refine tE.bind r (fun v ρ1 F1 O1 H1 x e1 s1 r1 p1 => ?_) (fun c ρ1 e1 => ?_) fun e1 => ?_
  · rw [e1] at q
    simp only [RE.bind] at q
    have p1 : Rep X.K F1 x v := p1
    split at q
    · cases p1; exact ⟨_, rfl, q F1 O1 H1 s1 r1⟩
    · exact q.elim
  · rw [e1] at q; exact q
  · rw [e1] at q; exact q.elim
@[simp] def eSl (g : PV → Option Int → Option Int → Option PV) (fe : En → RE PV) (fl fh : En → RE (Option Int)) (ρ : En) : RE PV := (fe ρ).bind fun v ρ1 => (fl ρ1).bind fun a ρ2 => (fh ρ2).bind fun b ρ3 => match g v a b with | some u => .ok u ρ3 | none => .bad
@[simp] def eSlL (g : PV → Option Int → Option Int → Option PV) (i : Nat) (fl fh : En → RE (Option Int)) (ρ : En) : RE PV := match ρ.at i with
  | none => .bad
  | some _ => (fl ρ).bind fun a ρ2 => (fh ρ2).bind fun b ρ3 => match ρ3.at i with
    | some (.s v) => (match g v a b with | some u => .ok u ρ3 | none => .bad)
    | some (.o v) => (match g v a b with | some u => .ok u ρ3 | none => .bad)
    | _ => .bad
theorem sl_all : SlR X (fun x lo hi H Q => rSlL X.K x lo hi H Q ∨ rSlF X.K x lo hi H Q ∨ rSlS x lo hi H Q) := sl_list.or (sl_tupF.or sl_str)
/-- the kinds of answer: shared, any; fresh, of a list -/
structure SlK (g : PV → Option Int → Option Int → Option PV) (k : Kd) : Prop where
  ans : ∀ {K : PySem.W.Frag} {C : Cf} {F H F1 H1 : Hp} {O O1 : Own} {σ : L2.St} {ρ1 : En} {x : V} {v u : PV} {a b : Option Int} {Q : VK}, Step F H O F1 H1 O1 → Rel K C F1 O1 σ H1 ρ1 → RepR K F1 H1 x v → g v a b = some u → PostE K C k F H O σ Q (.ok u ρ1) →
    rSlL K x a b H1 Q ∨ rSlF K x a b H1 Q ∨ rSlS x a b H1 Q
theorem slk_v : SlK sliceV .sh := ⟨fun {K C F H F1 H1 O O1 σ ρ1 x v u a b Q} s1 r1 hx hg q => by
  unfold sliceV at hg
  split at hg
  · rename_i xs
    cases hg
    obtain ⟨l, vs, rfl, hl, hv⟩ := hx.list r1.sub
    refine .inl ⟨l, vs, rfl, .of hl, fun p n => ?_⟩
    obtain ⟨s2, r2, f2⟩ := r1.newList n (hv.cut a b)
    obtain ⟨F3, s3, r3, p3, _⟩ := Fresh.share s2 f2 r2
    exact q F3 O1 _ _ (s1.trans s3) r3 p3
  · rename_i xs
    cases hg
    obtain ⟨l, vs, rfl, hl, hv⟩ := hx.tuple r1.sub
    have rx : Rep K F1 (.ref l) (.tuple xs) := by cases hx with | s z => exact z | o z => cases z
    refine .inr (.inl ⟨l, vs, rfl, hl.sq, fun hw => ?_, fun _ p o n hd => ?_⟩)
    · have e : cutL xs a b = xs := by
        unfold cutL
        have hlen := hv.length
        rw [← hlen, hw.1, hw.2, hlen]
        simp
      rw [e] at q
      exact q F1 O1 H1 _ s1 r1 rx
    · obtain ⟨F3, s3, r3, p3⟩ := r1.newTup (o := o) n hd (hv.cut a b)
      exact q F3 O1 _ _ (s1.trans s3) r3 p3
  · rename_i z
    split at hg
    · rename_i hz
      cases hg
      have e := hx.strE
      subst e
      exact .inr (.inr ⟨z, rfl, by rw [sizeLine_eq]; exact hz, q F1 O1 H1 _ s1 r1 (.str _)⟩)
    · cases hg
  · cases hg⟩
variable {g : PV → Option Int → Option Int → Option PV} {k : Kd}
theorem ev_sl (gk : SlK g k) (he : EV X C .sh e f) (hl : BV X C lo fl) (hh : BV X C hi fh) : EV X C k (.Subscript e (.Slice lo hi none p2) pos) (eSl g f fl fh) := by
  refine PE.imp (pe_slice sl_all he hl hh) fun σ H Q ⟨F, O, ρ, r, q⟩ => ?_
  unfold eSl at q
  refine tE.bind r (fun v ρ1 F1 O1 H1 x e1 s1 r1 p1 => ?_) (fun c ρ1 e1 => ?_) fun e1 => ?_
  · rw [e1] at q
    have p1 : Rep X.K F1 x v := p1
    refine tBd.bind r1 (fun a ρ2 F2 O2 H2 e2 s2 r2 => ?_) (fun c ρ2 e2 => ?_) fun e2 => ?_
    · refine tBd.bind r2 (fun b ρ3 F3 O3 H3 e3 s3 r3 => ?_) (fun c ρ3 e3 => ?_) fun e3 => ?_
      · simp only [RE.bind, e2, e3] at q
        split at q
        · rename_i u hu
          exact gk.ans ((s1.trans s2).trans s3) r3 (.s ((p1.mono s2.ext).mono s3.ext)) hu q
        · exact q.elim
      · simp only [RE.bind, e2, e3] at q; exact ExcP.from (s1.trans s2) q
      · simp only [RE.bind, e2, e3] at q; exact q.elim
    · simp only [RE.bind, e2] at q; exact ExcP.from s1 q
    · simp only [RE.bind, e2] at q; exact q.elim
  · rw [e1] at q; exact q
  · rw [e1] at q; exact q.elim
end
end Fx
namespace Fx
open PySem PySem.Spec PyProof.Rows L2
section
variable {X : Cx} {C : Cf} {a b : Expr} {fa fb : En → RE PV} {np rp rpos pos : Pos}
theorem repA_upTo {K : PySem.W.Frag} {F : Hp} (i j : Int) : RepA K F (rgV i j) (upTo i (j - i).toNat) := by
  unfold rgV Fx.upTo
  have : ∀ l : List Nat, RepA K F (l.map fun k => V.int (i + (k : Nat))) (l.map fun k => PyData.int (i + (k : Nat))) := fun l => by
    induction l with
    | nil => exact .nil
    | cons k l ih => exact .cons (.int _) ih
  exact this _
@[simp] def eLR1 (fa : En → RE PV) (ρ : En) : RE PV := (fa ρ).bind fun v ρ1 => match v with | .int j => if -1000000 ≤ j ∧ j ≤ 1000000 then .ok (.list (Fx.upTo 0 (j - 0).toNat)) ρ1 else .bad | _ => .bad
@[simp] def eLR2 (fa fb : En → RE PV) (ρ : En) : RE PV := (fa ρ).bind fun v ρ1 => (fb ρ1).bind fun w ρ2 => match v, w with | .int i, .int j => if -1000000 ≤ i ∧ i ≤ 1000000 ∧ -1000000 ≤ j ∧ j ≤ 1000000 then .ok (.list (Fx.upTo i (j - i).toNat)) ρ2 else .bad | _, _ => .bad
theorem ev_lr1 (hc : X.calm = true) (hg : Gl X "list") (hm : X.mg "list" = none) (hg2 : Gl X "range") (hm2 : X.mg "range" = none) (ha : EV X C .sh a fa) (na : starEach [a] X.env = (false, eval a X.env) :: starEach [] X.env := by rfl)
    (nl : starEach [.Call (.Name "range" rp) [a] [] rpos] X.env = (false, eval (.Call (.Name "range" rp) [a] [] rpos) X.env) :: starEach [] X.env := by rfl) : EV X C .fr (.Call (.Name "list" np) [.Call (.Name "range" rp) [a] [] rpos] [] pos) (eLR1 fa) := by
  refine PE.imp (pe_listRg hc hg hm (prg_1 hg2 hm2 ha na) nl) fun σ H Q ⟨F, O, ρ, r, q⟩ => ?_
  unfold eLR1 at q
  refine tE.bind r (fun v ρ1 F1 O1 H1 x e1 s1 r1 p1 => ?_) (fun c ρ1 e1 => ?_) fun e1 => ?_
  · rw [e1] at q
    simp only [RE.bind] at q
    have p1 : Rep X.K F1 x v := p1
    split at q
    · split at q
      · cases p1
        refine ⟨_, rfl, ⟨by omega, by omega, by omega, by omega, by omega⟩, fun p n => ?_⟩
        obtain ⟨s2, r2, f2⟩ := r1.newList n (repA_upTo (K := X.K) (F := F1) 0 _)
        exact q F1 O1 _ _ (s1.trans s2) r2 ⟨p, rfl, f2.from s1⟩
      · exact q.elim
    · exact q.elim
  · rw [e1] at q; exact q
  · rw [e1] at q; exact q.elim
end
end Fx
namespace Fx
open PySem PySem.Spec PyProof.Rows L2
section
variable {P : Program} {w : World} {A : Around} {E : Value → Shared → Prop} {s : Shared}
theorem applied_rev {sl : Addr} {vl vu vs : Value} {n : Nat} {Q : Int × Int × Nat → Shared → Prop} (hs : s.heap.IsSliceOf sl vl vu vs) (pl : IsPart vl none) (pu : IsPart vu none) (ps : IsPart vs (some (-1))) (h : Q ((n : Int) - 1, -1, n) s) :
    wpAny (model P w) A (Builtin.Slice.sliceApplied (.ref sl) (pure (n : Int))) Q E s := by
  obtain ⟨o, ho, _, hd⟩ := id hs
  unfold Builtin.Slice.sliceApplied Builtin.Slice.sliceFields
  refine wpAny_bind (wpAny_bind (wpAny_field ho hd (x := vl) rfl (wpAny_bind (wpAny_field ho hd (x := vu) rfl (wpAny_bind (wpAny_field ho hd (x := vs) rfl (wpAny_pure ?_)))))))
  refine wpAny_bind (HT.slicePart_ ps ?_)
  show wpAny _ _ (if ((-1 : Int) == 0) = true then _ else _) _ _ s
  rw [if_neg (by decide)]
  refine wpAny_bind (HT.slicePart_ pl (wpAny_bind (HT.slicePart_ pu (wpAny_bind (wpAny_pure ?_)))))
  show wpAny _ _ (pure ((n : Int) - 1, (-1 : Int), Builtin.Slice.slicePlaces ((n : Int) - 1) (-1) (-1))) _ _ s
  have e : Builtin.Slice.slicePlaces ((n : Int) - 1) (-1) (-1) = n := by
    unfold Builtin.Slice.slicePlaces
    rw [if_neg (by omega)]
    by_cases z : (n : Int) - 1 > -1
    · rw [if_pos z]
      have : ((n : Int) - 1 - -1 - 1) / (- -1) = (n : Int) - 1 := by
        rw [show (- -1 : Int) = 1 from rfl, Int.ediv_one]; omega
      rw [this]; omega
    · rw [if_neg z]; omega
  rw [e]
  exact wpAny_pure h
theorem fm_some {α β : Type} {f : α → Option β} {g : α → β} : ∀ {l : List α}, (∀ x ∈ l, f x = some (g x)) → l.filterMap f = l.map g
  | [], _ => rfl
  | x :: l, h => by
    rw [List.filterMap_cons, h x List.mem_cons_self, List.map_cons, fm_some fun y hy => h y (List.mem_cons_of_mem _ hy)]
theorem pick_rev (xs : Array Value) : ((List.range xs.size).filterMap fun (k : Nat) => xs[((xs.size : Int) - 1 + (k : Int) * (-1)).toNat]?).toArray = xs.toList.reverse.toArray := by
  congr 1
  rw [fm_some (g := fun k => xs.toList.reverse.getD k .none) fun k hk => ?_]
  · apply List.ext_getElem?
    intro i
    rw [List.getElem?_map]
    by_cases hi : i < xs.size
    · rw [List.getElem?_range hi, Option.map_some, List.getD_eq_getElem?_getD, List.getElem?_eq_getElem (by simpa using hi)]
      rfl
    · rw [List.getElem?_eq_none (by simp; omega), List.getElem?_eq_none (by simp; omega)]
      rfl
  · have := List.mem_range.mp hk
    have z : ((xs.size : Int) - 1 + (k : Int) * (-1)).toNat = xs.size - 1 - k := by omega
    rw [z, List.getD_eq_getElem?_getD, List.getElem?_reverse (by simpa using this), Array.length_toList, Array.getElem?_toList, Array.getElem?_eq_getElem (by omega)]
    rfl
theorem getItem_rev {t sl : Addr} {items : Array Value} {vl vu vs : Value} {Q : Value → Shared → Prop} (ht : IsTup s.heap t items) (hs : s.heap.IsSliceOf sl vl vu vs) (pl : IsPart vl none) (pu : IsPart vu none) (ps : IsPart vs (some (-1)))
    (h : Q (.ref s.heap.objs.size) { s with heap := s.heap.push { cls := .type "tuple", data := .seq items.toList.reverse.toArray } }) (hsz : items.size ≤ sizeLine) : wpAny (model P w) A (getItem (.ref t) (.ref sl)) Q E s := by
  have fits : sizeOk (.seq items.toList.reverse.toArray) := by
    show items.toList.reverse.toArray.size ≤ sizeLine
    simpa using hsz
  obtain ⟨o, ho, hc, hd⟩ := id hs
  have ty : s.TypeIs (.ref sl) "slice" := ⟨o, ho, hc⟩
  unfold getItem
  try with_reducible refine wpAny_holding ?_
  first | refine wpAny_bind (wpAny_pure ?_) | skip
  refine wpAny_bind (wpAny_sequenceKey ht.typeIs (by decide) (wpAny_bind (wpAny_callSpecial?_slot (name := Str.ofString "__getitem__") ht.typeIs PyProof.Rows.slot_tuple_getitem (wpAny_call_entry PyProof.Rows.slot_tuple_getitem ht.typeIs entry_tuple_getitem ?_ (args_tuple_getitem _ _)))))
  show wpAny _ _ (Builtin.Tuple.tupleItemsOf (.ref t) >>= _) _ _ s
  refine wpAny_bind (PyProof.Rows.tupleItemsOf_ ht (wpAny_bind (wpAny_typeOf ty ?_)))
  rw [if_pos (by decide)]
  refine wpAny_bind (applied_rev hs pl pu ps ?_)
  have no : ¬ ((((items.size : Int) - 1) == 0 && (-1 : Int) == 1 && items.size == items.size) = true) := by
    intro q
    rw [Bool.and_eq_true, Bool.and_eq_true] at q
    exact absurd q.1.2 (by decide)
  show wpAny _ _ (if (((items.size : Int) - 1) == 0 && (-1 : Int) == 1 && items.size == items.size) = true then _ else _) _ _ s
  rw [if_neg no, pick_rev]
  first
    | exact wpAny_bind (m := Builtin.Tuple.tupleExact _) (wpAny_newObj_type (wpAny_pure ⟨_, rfl, wpAny_pure h⟩) fits)
    | exact wpAny_bind (wpAny_bind (m := Builtin.Tuple.tupleExact _) (wpAny_newObj_type (wpAny_pure ⟨_, rfl, wpAny_pure h⟩) fits))
end
section
variable {X : Cx} {C : Cf} {e : Expr} {f : En → RE PV} {k : Nat} {p1 p2 p3 pos : Pos}
def tRevT (K : PySem.W.Frag) (te : TE) : TE := fun σ H Q => te σ H fun x H1 => ∃ a xs, x = .ref a ∧ SqT K H1 a xs ∧ ∀ p o, H1 p = none → o.dict = none → Q (.ref p) (upd H1 p (.frz o (.tup xs.reverse)))
theorem pe_revT {te : TE} (he : PE X e te) : PE X (.Subscript e (.Slice none none (some (.UnaryOp .USub (.Constant (.int 1) k p1) p2)) p3) pos) (tRevT X.K te) := by
  refine ⟨fun pins s σ H Q I h => Subscript_ (thn (he.run pins s σ H _ I h) fun v s1 ⟨x, H1, I1, r1, a, xs, ex, hx, q⟩ => ?_)⟩
  subst ex
  cases r1
  have step : PO X (some (.UnaryOp .USub (.Constant (.int 1) k p1) p2)) (tPart (tUn (rU fun i => .int (-i)) (tC (.int 1)))) := po_some (pe_un un_neg pe_int)
  refine wpAny_Slice (thn (po_none.run pins s1 σ H1 (fun o G => o = none ∧ G = H1) I1 ⟨rfl, rfl⟩) fun vl s2 ⟨l, H2, I2, pl, el, e2⟩ => ?_)
  subst el e2
  refine thn (po_none.run pins s2 σ H2 (fun o G => o = none ∧ G = H2) I2 ⟨rfl, rfl⟩) fun vu s3 ⟨u, H3, I3, pu, eu, e3⟩ => ?_
  subst eu e3
  refine thn (step.run pins s3 σ H3 (fun o G => o = some (-1) ∧ G = H3) I3 ⟨1, rfl, -1, rfl, rfl, rfl⟩) fun vs s4 ⟨o, H4, I4, ps, eo, e4⟩ => ?_
  subst eo e4
  have J : Inv X pins σ H4 { s4 with heap := s4.heap.push { cls := .type "slice", data := .fields #[vl, vu, vs] } } := I4.kept (t' := s4.toks) fun b ob q => Heap.get?_push_of_some _ q
  obtain ⟨its, r, ht, hz⟩ := J.tuple hx
  have hlen := r.length
  show wpAny (model X.prog X.w) X.A (subscriptTail e (.Slice none none (some (.UnaryOp .USub (.Constant (.int 1) k p1) p2)) p3) (.ref a) (.ref s4.heap.objs.size)) (EP X pins σ Q) X.xe _
  refine tail_any (ops := [.ref a, .ref s4.heap.objs.size]) ht.typeIs PyProof.Rows.slot_tuple_getitem.lookup ?_ (by with_unfolding_all rfl)
  refine getItem_rev ht (Heap.IsSliceOf.new _ vl vu vs) pl pu ps ?_ (by rw [List.size_toArray]; omega)
  have rr : Vals xs.reverse its.reverse := r.reverse
  refine ⟨.ref _, _, J.laid (t' := s4.toks) (fun b ob q => Heap.get?_push_of_some _ q) (Nat.le_refl _) (frz_new (its := its.reverse) (by rw [List.length_reverse]; exact hz) rr (Heap.get?_push_size _ rfl)), rfl, q _ _ (J.hok.fresh (Nat.le_refl _)) rfl⟩
@[simp] def eRevT (f : En → RE PV) (ρ : En) : RE PV := (f ρ).bind fun v ρ1 => match v with | .tuple xs => .ok (.tuple xs.reverse) ρ1 | _ => .bad
@[simp] def eRevL (f : En → RE PV) (ρ : En) : RE PV := (f ρ).bind fun v ρ1 => match v with | .list xs => .ok (.list xs.reverse) ρ1 | _ => .bad
theorem ev_revT {kd : Kd} (h : EV X C kd e f) (hk : kd = .sh ∨ kd = .rd) : EV X C .sh (.Subscript e (.Slice none none (some (.UnaryOp .USub (.Constant (.int 1) k p1) p2)) p3) pos) (eRevT f) := by
  have h : EV X C .rd e f := by rcases hk with rfl | rfl; exact ev_sr h; exact h
  refine PE.imp (pe_revT h) fun σ H Q ⟨F, O, ρ, r, q⟩ => ?_
  unfold eRevT at q
  refine tE.bind r (fun v ρ1 F1 O1 H1 x e1 s1 r1 p1 => ?_) (fun c ρ1 e1 => ?_) fun e1 => ?_
  · rw [e1] at q
    simp only [RE.bind] at q
    have p1 : RepR X.K F1 H1 x v := p1
    split at q
    · obtain ⟨a, vs, rfl, ha, hv⟩ := p1.tuple r1.sub
      refine ⟨a, vs, rfl, ha.sq, fun p o n hd => ?_⟩
      obtain ⟨F3, s3, r3, p3⟩ := r1.newTup (o := o) n hd hv.reverse
      exact q F3 O1 _ _ (s1.trans s3) r3 p3
    · exact q.elim
  · rw [e1] at q; exact q
  · rw [e1] at q; exact q.elim
end
theorem sv_wh {X : Cx} {C : Cf} {c : Expr} {body : List Stmt} {gt : En → RE Bool} {g : En → SR} {pos : Pos} {n : Nat} (hp : PassesOwn (model X.prog X.w) X.A X.env X.xe) (hc : TV X C c gt) (hb : SVs X C body g) : SV X C (.While c body [] pos) (sWhile gt g n) := sv_while hp hc hb n
end Fx
namespace Fx
open PySem PySem.Spec PyProof.Rows L2
section
variable {P : Program} {w : World} {A : Around} {E : Value → Shared → Prop} {s : Shared}
abbrev heapL (h : Heap) (vs : List Value) : Heap := (h.push (seqObj "list" #[] 0)).update h.objs.size (Obj.mapSeq (· ++ vs.toArray))
theorem collect_tt {l : Addr} {vs : List Value} {Q : List Value → Shared → Prop} (hl : s.heap.IsTuple l vs.toArray) (hz : vs.length ≤ sizeLine) (h : Q vs { s with heap := heapL s.heap vs }) : wpAny (model P w) A (collect (.ref l)) Q E s := by
  obtain ⟨o, ho, hc, n, hd⟩ := id hl
  unfold collect
  refine wpAny_bind (wpAny_runValue (codeAny_builtin entry_proto_collect' ?_))
  show wpAny _ _ (do again (.builtin "list.__iadd__" ⟨[← newList [], .ref l], []⟩)) _ _ s
  refine wpAny_bind (wpAny_newList (wpAny_pure ⟨Code.quiet_builtin _ (by decide +kernel), codeAny_builtin entry_list_iadd' ?_⟩))
  show wpAny _ _ (Builtin.List.listExtendWith (.ref s.heap.objs.size) (.ref l) (.ref s.heap.objs.size)) _ _ { s with heap := s.heap.push (seqObj "list" #[] 0) }
  unfold Builtin.List.listExtendWith
  have o1 : (s.heap.push (seqObj "list" #[] 0)).get? l = some o := Heap.get?_push_of_some _ ho
  refine wpAny_bind (wpAny_typeOf (T := "tuple") ⟨o, o1, hc⟩ ?_)
  rw [if_pos (by simp)]
  refine wpAny_bind (listItems_at o1 hd (wpAny_bind (listItems_at (xs := #[]) (n := 0) (Heap.get?_push_size _ rfl) rfl ?_)))
  rw [if_neg (by simp)]
  refine wpAny_bind (listUpdate_at (xs := #[]) (n := 0) (Heap.get?_push_size _ rfl) rfl (wpAny_pure ?_) (Nat.zero_le _) (by show (#[] ++ vs.toArray).size ≤ sizeLine + 1; simp only [Array.size_append, List.size_toArray, List.length_nil]; omega))
  refine wpAny_bind (wpAny_load (get?_update_seq (Heap.get?_push_size _ rfl) _) ?_)
  show wpAny _ _ (pure ((#[] : Array Value) ++ vs.toArray).toList) Q E _
  rw [show ((#[] : Array Value) ++ vs.toArray).toList = vs by simp]
  exact wpAny_pure h
/-- what stands behind the collecting -/
theorem heapL_size (h : Heap) (vs : List Value) : (heapL h vs).objs.size = h.objs.size + 1 := by rw [Heap.size_update, size_push']
theorem heapL_new (h : Heap) (vs : List Value) : ((heapL h vs).push (seqObj "list" vs.toArray 0)).get? (h.objs.size + 1) = some (seqObj "list" vs.toArray 0) := by
  rw [← heapL_size h vs]; exact Heap.get?_push_size _ rfl
theorem heapL_keep (h : Heap) (vs : List Value) {b : Addr} {o : Obj} (q : h.get? b = some o) : ((heapL h vs).push (seqObj "list" vs.toArray 0)).get? b = some o := by
  refine Heap.get?_push_of_some _ ?_
  rw [Heap.get?_update_ne _ _ _ _ (Nat.ne_of_lt (Heap.lt_size q))]
  exact Heap.get?_push_of_some _ q
theorem sorted_via {l : Addr} {vs : List Value} {Q : Value → Shared → Prop} {G : Array Value → Prop} (hl : s.heap.IsTuple l vs.toArray) (hz : vs.length ≤ sizeLine)
    (srt : ∀ (R : PySem.Fin → Shared → Prop), (∀ out : Array Value, G out → R (.done (.ret .none)) { s with heap := sortedHeap ((heapL s.heap vs).push (seqObj "list" vs.toArray 0)) (s.heap.objs.size + 1) vs out }) →
      wpAny (model P w) A.in1.in1 (Builtin.«list.sort» ⟨[.ref (s.heap.objs.size + 1)], []⟩) R E { s with heap := (heapL s.heap vs).push (seqObj "list" vs.toArray 0) })
    (h : ∀ out : Array Value, G out → Q (.ref (s.heap.objs.size + 1)) { s with heap := sortedAll s.heap vs out }) : wpAny (model P w) A (call (.builtin "sorted") [.ref l]) Q E s := by
  refine Calls.call_function_entry kind_sorted plain_sorted entry_sorted (args_sorted1 _) ?_
  unfold Builtin.«sorted»
  refine wpAny_bind (m := checkCount "sorted" 1 1 _) (wpAny_pure (wpAny_bind (collect_tt hl hz (wpAny_bind (wpAny_newList ?_ hz)))))
  show wpAny _ _ _ _ _ { s with heap := (heapL s.heap vs).push (seqObj "list" vs.toArray 0) }
  rw [heapL_size]
  refine wpAny_bind (wpAny_holding (wpAny_call_entry slot_list_sort ⟨_, heapL_new s.heap vs, rfl⟩ entry_list_sort (srt _ fun out g => ⟨_, rfl, ?_⟩) (args_list_sort _)))
  exact wpAny_pure ⟨_, rfl, h out g⟩
end
section
variable {X : Cx}
def rSIT (K : PySem.W.Frag) : List V → Hp → VK → Prop := fun vs H Q => ∃ (a : Addr) (ns : List Int), vs = [V.ref a] ∧ SqT K H a (ns.map V.int) ∧ ns.length < 64 ∧
  ∀ (ns' : List Int) (p : Addr), ns'.Perm ns → ns'.Pairwise (· ≤ ·) → H p = none → Q (.ref p) (upd H p (.lst (ns'.map V.int)))
theorem cr_sortedIT : CallR X (.builtin "sorted") (rSIT X.K) := by
  intro pins s σ H vs us Q I r ⟨a, ns, ex, hs, h64, q⟩
  subst ex
  obtain ⟨its, rv, hl, _⟩ := I.tuple hs
  rw [Vals.ref1 r]
  have hi := rv.ints
  have hlen : its.length < 64 := by rw [hi.length]; exact h64
  refine sorted_via (vs := its) (G := fun out => ∃ ns', IntsAre out.toList ns' ∧ ns'.Perm ns ∧ ns'.Pairwise (· ≤ ·)) hl (by rw [sizeLine_eq]; omega) (fun R k => list_sort_tree (heapL_new s.heap its) hi hlen fun out ns' a1 a2 a3 => k out ⟨ns', a1, a2, a3⟩) fun out ⟨ns', h1, h2, h3⟩ => ?_
  obtain ⟨ep, he⟩ := PyProof.Rows.sortedAll_at s.heap its out
  have z : (ns'.map V.int).length ≤ sizeLine := by rw [List.length_map, h2.length_eq]; exact small64 h64
  exact ⟨.ref _, upd H (s.heap.objs.size + 1) (.lst (ns'.map V.int)), I.laid (t' := s.toks) (fun _ _ => PyProof.Rows.sortedAll_old) (Nat.le_succ _) ⟨z, out.toList, ep, vals_of_ints h1, he⟩, rfl, q ns' _ h2 h3 (I.hok.fresh (Nat.le_succ _))⟩
def rSUT (K : PySem.W.Frag) (d : Nat) (B : Int) : List V → Hp → VK → Prop := fun vs H Q => ∃ (a : Addr) (ps : List (Addr × List Int)), vs = [V.ref a] ∧ SqT K H a (ps.map fun p => V.ref p.1) ∧ ps.length < 64 ∧ (∀ p ∈ ps, SqT K H p.1 (p.2.map V.int) ∧ p.2.length = d ∧ TS.Bd B p.2) ∧
  ∀ (qs : List (Addr × List Int)) (p : Addr), qs.Perm ps → qs.Pairwise (fun x y => TS.code B x.2 ≤ TS.code B y.2) → H p = none → Q (.ref p) (upd H p (.lst (qs.map fun p => V.ref p.1)))
theorem cr_sortTT {d : Nat} {B : Int} (hd : 1 ≤ d) : CallR X (.builtin "sorted") (rSUT X.K d B) := by
  intro pins s σ H vs us Q I r ⟨a, ps, ex, hs, h64, hp, q⟩
  subst ex
  obtain ⟨its, rv, hl, hz⟩ := I.tuple hs
  rw [Vals.ref1 r]
  have ei : its = ps.map fun (p : Addr × List Int) => Value.ref p.1 := refs_of_vals rv
  subst ei
  have hlen : (ps.map fun (p : Addr × List Int) => Value.ref p.1).length < 64 := by simpa using h64
  have raw : ∀ p ∈ ps, TS.TupInts s.heap (.ref p.1) p.2 := fun p h => tupI_raw I (hp p h).1
  have ok : TS.TupsOk s.heap d B (ps.map fun (p : Addr × List Int) => Value.ref p.1) := fun v hv => by
    obtain ⟨p, h, e⟩ := List.mem_map.mp hv
    subst e
    exact ⟨p.2, raw p h, (hp p h).2.1, (hp p h).2.2⟩
  have keep : ∀ b o, s.heap.get? b = some o → o.cls = .type "tuple" → ((heapL s.heap (ps.map fun (p : Addr × List Int) => Value.ref p.1)).push (seqObj "list" (ps.map fun (p : Addr × List Int) => Value.ref p.1).toArray 0)).get? b = some o := fun b o e _ => heapL_keep _ _ e
  refine sorted_via (vs := ps.map fun (p : Addr × List Int) => Value.ref p.1) (G := fun out => out.toList.Perm (ps.map fun (p : Addr × List Int) => Value.ref p.1) ∧ out.toList.Pairwise (fun u v => TS.code B (TS.intsOf s.heap u) ≤ TS.code B (TS.intsOf s.heap v))) hl (by rw [sizeLine_eq]; omega)
    (fun R k => TS.sort_tups (heapL_new s.heap _) hlen hd (ok.keeps keep) (fun v => TS.code B (TS.intsOf s.heap v)) (fun v hv ns t => ?_) fun out h1 h2 => k out ⟨h1, h2⟩) fun out ⟨h1, h2⟩ => ?_
  · obtain ⟨n0, t0, _⟩ := ok v hv
    have e : ns = n0 := t.ints.symm.trans (t0.keeps keep).ints
    rw [e, t0.ints]
  · obtain ⟨qs, q1, q2⟩ := perm_lift (fun p : Addr × List Int => Value.ref p.1) h1 rfl
    obtain ⟨ep, he⟩ := PyProof.Rows.sortedAll_at s.heap (ps.map fun (p : Addr × List Int) => Value.ref p.1) out
    have z : (qs.map fun p => V.ref p.1).length ≤ sizeLine := by rw [List.length_map, q1.length_eq]; exact small64 h64
    have rvq : Vals (qs.map fun p => V.ref p.1) out.toList := by rw [q2]; exact vals_of_refs qs
    refine ⟨.ref _, upd H (s.heap.objs.size + 1) (.lst (qs.map fun p => V.ref p.1)), I.laid (t' := s.toks) (fun _ _ => PyProof.Rows.sortedAll_old) (Nat.le_succ _) ⟨z, out.toList, ep, rvq, he⟩, rfl, q qs _ q1 ?_ (I.hok.fresh (Nat.le_succ _))⟩
    rw [q2, List.pairwise_map] at h2
    refine List.Pairwise.imp_of_mem (fun {x y} hx hy h => ?_) h2
    rw [← (raw x (q1.mem_iff.mp hx)).ints, ← (raw y (q1.mem_iff.mp hy)).ints]
    exact h
end
end Fx
namespace Fx
open PySem PySem.Spec PyProof.Rows L2
def sortA : List PV → Option PV
  | [.tuple xs] => match intsOf xs with
    | some ns => if ns.length < 64 then some (.list ((sortK id ns).map .int)) else none
    | none => (rowsP xs).bind fun l => if okRows l then some (.list ((sortK key64 l).map tupP)) else none
  | vs => sortV vs
section
variable {X : Cx} {C : Cf} {e : Expr} {np cp : Pos}
theorem ev_sortA {fa : En → RE (List PV)} (hg : Gl X "sorted") (hm : X.mg "sorted" = none) (ha : AV X C .rd [e] fa) (he : starEach [e] X.env = (false, eval e X.env) :: starEach [] X.env := by rfl) (hpl : (backTo cp (starEach [] X.env)).any (·.1) = false := by rfl) :
    EV X C .fr (.Call (.Name "sorted" np) [e] [] cp) (eCal sortA fa) := by
  have hor : CallR X (.builtin "sorted") (fun xs H Q => (rSortedI X.K xs H Q ∨ ∃ d, 1 ≤ d ∧ rSortU X.K d 64 xs H Q) ∨ rSIT X.K xs H Q ∨ ∃ d, 1 ≤ d ∧ rSUT X.K d 64 xs H Q) := by
    intro pins s σ H xs us Q I r h
    rcases h with (h | ⟨d, hd, h⟩) | h | ⟨d, hd, h⟩
    · exact cr_sortedI pins s σ H xs us Q I r h
    · exact cr_sortT hd pins s σ H xs us Q I r h
    · exact cr_sortedIT pins s σ H xs us Q I r h
    · exact cr_sortTT hd pins s σ H xs us Q I r h
  refine PE.imp (pe_callB hor hg hm (by decide +kernel) ha (by decide) (by decide) he hpl) fun σ H Q ⟨F, O, ρ, r, q⟩ => ?_
  unfold eCal at q
  refine tA.bind r (fun v ρ1 F1 O1 H1 x e1 s1 r1 p1 => ?_) (fun c ρ1 e1 => ?_) fun e1 => ?_
  · rw [e1] at q
    simp only [RE.bind] at q
    unfold sortA at q
    split at q
    · rename_i u hu
      split at hu
      · rename_i xs
        obtain ⟨z, rfl, hz⟩ := RepRA.one p1
        obtain ⟨a, vs, rfl, hl, hv⟩ := hz.tuple r1.sub
        split at hu
        · rename_i ns hns
          split at hu
          · rename_i h64
            cases hu
            obtain ⟨e3, _⟩ := hv.ints hns
            subst e3
            refine .inr (.inl ⟨a, ns, rfl, hl.sq, h64, fun ns' p pm pw n => ?_⟩)
            have : ns' = sortK id ns := rising_unique (f := id) (pm.trans (sortK_perm id ns).symm) pw (sortK_sorted id ns) fun a _ b _ h => h
            subst this
            obtain ⟨s2, r2, f2⟩ := r1.newList n (repA_ints (K := X.K) (F := F1) (sortK id ns))
            exact q F1 O1 _ _ (s1.trans s2) r2 ⟨p, rfl, f2.from s1⟩
          · cases hu
        · cases hr : rowsP xs with
          | none => rw [hr] at hu; cases hu
          | some l =>
            rw [hr] at hu
            simp only [Option.bind_some] at hu
            split at hu
            · rename_i hok
              cases hu
              obtain ⟨h64, d, hd, hb⟩ := okRows_bd hok
              obtain ⟨ps, e3, e4, e5⟩ := rows_rep hv hr
              subst e3 e4
              refine .inr (.inr ⟨d, hd, a, ps, rfl, hl.sq, by simpa using h64, fun p hp => ⟨same_sqT r1.sub (e5 p hp).sq, hb p.2 (List.mem_map.mpr ⟨p, hp, rfl⟩)⟩, fun qs p q1 pw n => ?_⟩)
              have hm : ∀ p ∈ qs, p ∈ ps := fun p hp => q1.mem_iff.mp hp
              have e6 : qs.map (·.2) = sortK key64 (ps.map (·.2)) := rising_unique ((q1.map _).trans (sortK_perm _ _).symm) (by rw [List.pairwise_map]; exact pw) (sortK_sorted _ _) fun a ha b hb2 h => by
                have m1 := (q1.map (·.2)).mem_iff.mp ha
                have m2 := (q1.map (·.2)).mem_iff.mp hb2
                exact code_inj ((hb a m1).1.trans (hb b m2).1.symm) (hb a m1).2 (hb b m2).2 h
              obtain ⟨s2, r2, f2⟩ := r1.newList n (repA_rows (K := X.K) (F := F1) fun p hp => e5 p (hm p hp))
              rw [e6] at f2
              exact q F1 O1 _ _ (s1.trans s2) r2 ⟨p, rfl, f2.from s1⟩
            · cases hu
      · unfold sortV at hu
        split at hu
        · rename_i xs hq
          obtain ⟨z, rfl, hz⟩ := RepRA.one p1
          obtain ⟨a, vs, rfl, hl, hv⟩ := hz.list r1.sub
          split at hu
          · rename_i ns hns
            cases hu
            obtain ⟨e3, _⟩ := hv.ints hns
            subst e3
            refine .inl (.inl ⟨a, ns, rfl, .of hl, fun ns' p pm pw n => ?_⟩)
            have : ns' = sortK id ns := rising_unique (f := id) (pm.trans (sortK_perm id ns).symm) pw (sortK_sorted id ns) fun a _ b _ h => h
            subst this
            obtain ⟨s2, r2, f2⟩ := r1.newList n (repA_ints (K := X.K) (F := F1) (sortK id ns))
            exact q F1 O1 _ _ (s1.trans s2) r2 ⟨p, rfl, f2.from s1⟩
          · cases hr : rowsP xs with
            | none => rw [hr] at hu; cases hu
            | some l =>
              rw [hr] at hu
              simp only [Option.bind_some] at hu
              split at hu
              · rename_i hok
                cases hu
                obtain ⟨h64, d, hd, hb⟩ := okRows_bd hok
                obtain ⟨ps, e3, e4, e5⟩ := rows_rep hv hr
                subst e3 e4
                have ti : ∀ p ∈ ps, TupI X.K H1 (V.ref p.1) p.2 := fun p hp => ⟨_, rfl, same_sqT r1.sub (e5 p hp).sq⟩
                refine .inl (.inr ⟨d, hd, a, _, rfl, .of hl, by simpa using h64, fun x hx => ?_, fun ys p pm pw n => ?_⟩)
                · obtain ⟨p, hp, rfl⟩ := List.mem_map.mp hx
                  obtain ⟨b1, b2⟩ := hb p.2 (List.mem_map.mpr ⟨p, hp, rfl⟩)
                  exact ⟨p.2, ti p hp, b1, b2⟩
                · obtain ⟨qs, q1, rfl⟩ := perm_lift (fun p : Addr × List Int => V.ref p.1) pm rfl
                  have hm : ∀ p ∈ qs, p ∈ ps := fun p hp => q1.mem_iff.mp hp
                  have pw2 : (qs.map (·.2)).Pairwise (fun a b => key64 a ≤ key64 b) := by
                    rw [List.pairwise_map] at pw ⊢
                    refine List.Pairwise.imp_of_mem (fun {x y} hx hy h => ?_) pw
                    exact h _ _ (ti x (hm x hx)) (ti y (hm y hy))
                  have e6 : qs.map (·.2) = sortK key64 (ps.map (·.2)) := rising_unique ((q1.map _).trans (sortK_perm _ _).symm) pw2 (sortK_sorted _ _) fun a ha b hb2 h => by
                    have m1 := (q1.map (·.2)).mem_iff.mp ha
                    have m2 := (q1.map (·.2)).mem_iff.mp hb2
                    exact code_inj ((hb a m1).1.trans (hb b m2).1.symm) (hb a m1).2 (hb b m2).2 h
                  obtain ⟨s2, r2, f2⟩ := r1.newList n (repA_rows (K := X.K) (F := F1) fun p hp => e5 p (hm p hp))
                  rw [e6] at f2
                  exact q F1 O1 _ _ (s1.trans s2) r2 ⟨p, rfl, f2.from s1⟩
              · cases hu
        · cases hu
    · exact q.elim
  · rw [e1] at q; exact q
  · rw [e1] at q; exact q.elim
end
end Fx
namespace Fx
open PySem PySem.Spec PyProof.Rows L2
end Fx
namespace Fx
open PySem PySem.Spec PyProof.Rows L2
def FewKinds (ks : List (Addr × List Int)) : Prop := ∀ L : List (Addr × List Int), (L.map (·.2)).Nodup → (∀ p ∈ L, p ∈ ks) → L.length + 1 < 64
section
variable {P : Program} {w : World} {A : Around}
theorem set_loop {I : Addr} {fp wr : List Addr} {G : Array GenState → Array GenState → Prop} {n : Nat} {Pv : Nat → Value → Prop} {St : Nat → Shared → Prop} {R : Result → Shared → Prop} (W : WalksS P w A.in1 I fp wr G n Pv St) (S : Addr) (nf : S ∉ fp)
    (ks : List (Addr × List Int)) (hn : n = ks.length) (few : FewKinds ks) (told : ∀ i v, Pv i v → ∃ p, ks[i]? = some p ∧ v = .ref p.1) (h0 : Heap) (hk : ∀ p ∈ ks, IsT P w h0 p.2 p.1) (S0 : h0.get? S = none) (w0 : ∀ b ∈ wr, h0.get? b = none) (hu : A.in1.units < cLine) :
    ∀ (k i : Nat) (s : Shared), n - i = k → i ≤ n → St i s → (∀ b o, h0.get? b = some o → s.heap.get? b = some o) → (∃ L es ep t, SetTR P w s.heap S L es ep t ∧ Got ks i L) →
      (∀ t L es ep tb, Moved (S :: wr) G s t → SetTR P w t.heap S L es ep tb → Got ks n L → (∀ b o, h0.get? b = some o → t.heap.get? b = some o) → R (.ok (.ret .none)) t) → codeAny (model P w) A (.builtin "set.update.loop" ⟨[.ref S, .ref I], []⟩) R s := by
  have nw : S ∉ wr := fun z => nf (W.sub _ z)
  have inS : ∀ b ∈ wr, b ∈ S :: wr := fun b z => List.mem_cons_of_mem _ z
  have on : ∀ {s t : Shared}, Moved wr G s t → (∀ b o, h0.get? b = some o → s.heap.get? b = some o) → ∀ b o, h0.get? b = some o → t.heap.get? b = some o := fun m z b o e => m.heap b o (fun hb => by rw [w0 b hb] at e; cases e) (z b o e)
  intro k
  induction k with
  | zero =>
    intro i s e le st kp ⟨L, es, ep, t, hS, g⟩ fin
    obtain rfl : i = n := by omega
    refine codeAny_builtin F.entry_set_update_loop ?_
    rw [Around.under_plainId F.plain_set_update_loop _]
    refine wpAny_bind (W.done s _ _ st fun s2 m => ?_)
    have kp2 := on m kp
    exact wpAny_pure (fin s2 L es ep t (m.mono inS) (hS.keep (fun o z => m.heap S o nw z) fun p hp => isT_keep (hk p (List.mem_of_mem_take (g.sub p hp))) kp2) g kp2)
  | succ k ih =>
    intro i s e le st kp ⟨L, es, ep, t, hS, g⟩ fin
    have lt : i < n := by omega
    refine codeAny_builtin F.entry_set_update_loop ?_
    rw [Around.under_plainId F.plain_set_update_loop _]
    refine wpAny_bind (W.item i s _ _ lt st fun v s2 hv st2 m => ?_)
    obtain ⟨p, hp, rfl⟩ := told i v hv
    have kp2 := on m kp
    have inks : ∀ q ∈ L, q ∈ ks := fun q hq => List.mem_of_mem_take (g.sub q hq)
    have hS2 : SetTR P w s2.heap S L es ep t := hS.keep (fun o z => m.heap S o nw z) fun q hq => isT_keep (hk q (inks q hq)) kp2
    have hx : IsT P w s2.heap p.2 p.1 := isT_keep (hk p (List.mem_of_getElem? hp)) kp2
    show wpAny _ A.in1 (holding [Value.ref p.1] (setAdd S (.ref p.1)) >>= _) _ _ s2
    refine wpAny_bind (wpAny_holding ?_)
    unfold setAdd
    refine wpAny_holding (wpAny_bind (wpAny_pyHash_tuple hu hx ?_))
    refine add_at (s := { s2 with toks := s2.toks + (p.2.length + 1) }) hS2 hx hu (few L hS2.nd inks) fun b h2 L2 es2 ep2 t2 sb hS3 c1 c2 => ?_
    have g2 : Got ks (i + 1) L2 := by
      rcases Classical.em (p.2 ∈ L.map (·.2)) with c | c
      · rw [c1 c]; exact g.same hp c
      · exact g.more hp (c2 c)
    refine wpAny_pure ⟨plainId_quiet F.plain_set_update_loop _, ih (i + 1) _ (by omega) lt (W.frame _ s2 _ _ st2 (Nat.le_add_right _ _) fun b hb o z => ?_) (fun b o z => (sb.2 b (fun y => by rw [y, S0] at z; cases z)).trans (kp2 b o z)) ⟨L2, es2, ep2, t2, hS3, g2⟩ fun s3 L3 es3 ep3 t3 m3 hS4 g3 kp3 => ?_⟩
    · rw [sb.2 b (fun y : b = S => nf (by rw [← y]; exact hb))]; exact z
    · refine fin s3 L3 es3 ep3 t3 (Moved.trans W.gtrans ((m.mono inS).then_heap (Nat.le_add_right _ _) fun b o hb z => ?_) m3) hS4 g3 kp3
      rw [sb.2 b (fun y : b = S => hb (by rw [y]; exact List.mem_cons_self))]; exact z
end
end Fx
namespace Fx
open PySem PySem.Spec PyProof.Rows L2
section
variable {P : Program} {w : World} {A : Around} {E : Value → Shared → Prop} {s : Shared}
set_option maxHeartbeats 6400000 in
/-- set(t), t a tuple of tuples of ints -/
theorem call_setFT {l : Addr} {items : Array Value} (ks : List (Addr × List Int)) {Q : Value → Shared → Prop} (hh : A.handled = none) (hl : s.heap.IsTuple l items) (hit : items.toList = ks.map fun p => Value.ref p.1)
    (hk : ∀ p ∈ ks, IsT P w s.heap p.2 p.1) (few : FewKinds ks) (hu : A.units + 3 < cLine) (h : ∀ (h' : Heap) (tk : Nat), SetMade P w s ks h' → Q (.ref s.heap.objs.size) { s with heap := h', toks := tk }) :
    wpAny (model P w) A (call (.type "set") [.ref l]) Q E s := by
  have size : items.size = ks.length := by
    have e := congrArg List.length hit
    rwa [Array.length_toList, List.length_map] at e
  obtain ⟨c, tl, g1⟩ := F.called_set.mro
  have g2 := F.called_set.made
  have g3 := F.called_set.sub
  refine wpAny_call (codeAny_of_tree ?_)
  show wpAny _ _ (callAny (.type "set") _) _ _ _
  refine wpAny_pure ⟨Code.quiet_builtin _ (by decide +kernel), codeAny_builtin F.entry_type_call ?_⟩
  rw [Around.under_plain (weight_type_call_type "set" [.ref l] []) rfl]
  have g4 := F.called_set.notType
  have g5 := F.called_set.canCreate
  have g6 := F.typeCall_set_1 (.ref l)
  repeat (any_goals (first | assumption | wp_step))
  refine codeAny_mono (code_set_led1 (.ref l) (E := E) (Q₁ := fun v t => v = .ref s.heap.objs.size ∧ t = { s with heap := s.heap.push (set0 w) }) ⟨rfl, rfl⟩) fun r t hr => ?_
  match r, hr with
  | .error e, hr => exact hr
  | .ok (.ret v), hr =>
    obtain ⟨ev, et⟩ := hr
    subst ev et
    have at0 : (s.heap.push (set0 w)).get? s.heap.objs.size = some (set0 w) := Heap.get?_push_size _ rfl
    have ty0 : Shared.TypeIs { s with heap := s.heap.push (set0 w) } (.ref s.heap.objs.size) "set" := ⟨_, at0, rfl⟩
    have g7 := F.called_set.init.lookup
    have g8 := F.called_set.init.bind (.ref s.heap.objs.size)
    repeat (any_goals (first | assumption | wp_step))
    refine codeAny_mono (codeAny_call_builtin (R := wants (fun r t => r = .none ∧ ∃ h' tk, t = { s with heap := h', toks := tk } ∧ SetMade P w s ks h') E) F.called_set.init.plain F.entry_set_init (check_set_init_1 ty0 ?_)) fun r t hr => ?_
    · obtain ⟨ol, o1, o2, nl, o3⟩ := hl
      obtain ⟨oc, od, oda, osl⟩ := ol
      simp only at o2 o3
      subst o2; subst o3
      have o1' : (s.heap.push (set0 w)).get? l = some { cls := .type "tuple", dict := od, data := .seq items nl, slots := osl } := Heap.get?_push_of_some _ o1
      have i1 := F.sub_tuple_set
      have i2 := F.sub_tuple_frozenset
      have i3 : (Value.type "tuple" == Value.type "dict") = false := by decide
      have i4 : (s.heap.push (set0 w)).IsTuple l items := ⟨_, o1', rfl, nl, rfl⟩
      unfold Builtin.«set.__init__» noKeywords Builtin.Frozenset.updateFrom
      generalize hPI : pyIter = PI
      wp_walk
      subst hPI
      refine wpAny_pyIter_tuple i4 (wpAny_bind (wpAny_runValue ?_))
      have lS : l < s.heap.objs.size := Heap.lt_size o1
      have hz1 : (s.heap.push (set0 w)).objs.size = s.heap.objs.size + 1 := Heap.size_push ..
      have nI : l ≠ (s.heap.push (set0 w)).objs.size := by rw [hz1]; exact Nat.ne_of_lt (Nat.lt_succ_of_lt lS)
      have nS : s.heap.objs.size ∉ [(s.heap.push (set0 w)).objs.size, l] := by
        rw [hz1]
        intro z
        rcases List.mem_cons.mp z with e | z
        · exact absurd e (Nat.ne_of_lt (Nat.lt_succ_self _))
        · exact absurd (List.mem_singleton.mp z) (Nat.ne_of_gt lS)
      have fresh : ∀ b, s.heap.objs.size ≤ b → s.heap.get? b = none := fun b hb => Heap.get?_none_of_le hb
      have told : ∀ (i : Nat) (v : Value), items[i]? = some v → ∃ p, ks[i]? = some p ∧ v = .ref p.1 := fun i v hv => by
        have e : items.toList[i]? = some v := by rw [Array.getElem?_toList]; exact hv
        rw [hit, List.getElem?_map] at e
        cases z : ks[i]? with
        | none => rw [z] at e; cases e
        | some p => rw [z] at e; exact ⟨p, rfl, (Option.some.inj e).symm⟩
      refine set_loop ((Walks.tuple (by simp [hh]) _ l nI items).toS) s.heap.objs.size nS ks size few told s.heap hk (fresh _ (Nat.le_refl _)) (fun b hb => fresh b (by rw [List.mem_singleton.mp hb, hz1]; omega)) hu
        (items.size - 0) 0 _ (by omega) (Nat.zero_le _) ⟨⟨_, Heap.get?_push_size _ rfl, rfl, rfl⟩, i4.push _⟩ (fun b o e => Heap.get?_push_of_some _ (Heap.get?_push_of_some _ e)) ?start ?done
      case start =>
        exact ⟨[], #[], 0, _, setTR_fresh (Heap.get?_push_of_some _ at0), Got.zero ks⟩
      case done =>
        intro t L es ep tb hm hS hg hkp
        obtain ⟨h', gg, dd, tk', oo⟩ := t
        have q1 : gg = s.gens := hm.gens
        have q2 : dd = s.drawn := hm.drawn
        have q3 : oo = s.os := hm.os
        subst q1; subst q2; subst q3
        show wpAny _ _ _ _ _ _
        refine wpAny_pure ?_
        show wpAny _ _ (ret Value.none) _ _ _
        rw [size] at hg
        exact wpAny_pure ⟨rfl, h', tk', rfl, L, es, ep, tb, hS, hg, hkp⟩
    · match r, hr with
      | .error e, hr => exact hr
      | .ok (.ret v), hr =>
        obtain ⟨ev, h', tk, et, hM⟩ := hr
        subst ev et
        repeat (any_goals (first | assumption | wp_step))
        exact h h' tk hM
      | .ok .next, hr => exact hr.elim
      | .ok .brk, hr => exact hr.elim
      | .ok .cont, hr => exact hr.elim
  | .ok .next, hr => exact hr.elim
  | .ok .brk, hr => exact hr.elim
  | .ok .cont, hr => exact hr.elim
set_option maxHeartbeats 6400000 in
/-- set(t), t a tuple of tuples of ints -/
theorem call_setFL {l : Addr} {items : Array Value} (ks : List (Addr × List Int)) {Q : Value → Shared → Prop} (hh : A.handled = none) (hl : s.heap.IsList l items) (hit : items.toList = ks.map fun p => Value.ref p.1)
    (hk : ∀ p ∈ ks, IsT P w s.heap p.2 p.1) (few : FewKinds ks) (hu : A.units + 3 < cLine) (h : ∀ (h' : Heap) (tk : Nat), SetMade P w s ks h' → Q (.ref s.heap.objs.size) { s with heap := h', toks := tk }) :
    wpAny (model P w) A (call (.type "set") [.ref l]) Q E s := by
  have size : items.size = ks.length := by
    have e := congrArg List.length hit
    rwa [Array.length_toList, List.length_map] at e
  obtain ⟨c, tl, g1⟩ := F.called_set.mro
  have g2 := F.called_set.made
  have g3 := F.called_set.sub
  refine wpAny_call (codeAny_of_tree ?_)
  show wpAny _ _ (callAny (.type "set") _) _ _ _
  refine wpAny_pure ⟨Code.quiet_builtin _ (by decide +kernel), codeAny_builtin F.entry_type_call ?_⟩
  rw [Around.under_plain (weight_type_call_type "set" [.ref l] []) rfl]
  have g4 := F.called_set.notType
  have g5 := F.called_set.canCreate
  have g6 := F.typeCall_set_1 (.ref l)
  repeat (any_goals (first | assumption | wp_step))
  refine codeAny_mono (code_set_led1 (.ref l) (E := E) (Q₁ := fun v t => v = .ref s.heap.objs.size ∧ t = { s with heap := s.heap.push (set0 w) }) ⟨rfl, rfl⟩) fun r t hr => ?_
  match r, hr with
  | .error e, hr => exact hr
  | .ok (.ret v), hr =>
    obtain ⟨ev, et⟩ := hr
    subst ev et
    have at0 : (s.heap.push (set0 w)).get? s.heap.objs.size = some (set0 w) := Heap.get?_push_size _ rfl
    have ty0 : Shared.TypeIs { s with heap := s.heap.push (set0 w) } (.ref s.heap.objs.size) "set" := ⟨_, at0, rfl⟩
    have g7 := F.called_set.init.lookup
    have g8 := F.called_set.init.bind (.ref s.heap.objs.size)
    repeat (any_goals (first | assumption | wp_step))
    refine codeAny_mono (codeAny_call_builtin (R := wants (fun r t => r = .none ∧ ∃ h' tk, t = { s with heap := h', toks := tk } ∧ SetMade P w s ks h') E) F.called_set.init.plain F.entry_set_init (check_set_init_1 ty0 ?_)) fun r t hr => ?_
    · obtain ⟨ol, o1, o2, nl, o3⟩ := hl
      obtain ⟨oc, od, oda, osl⟩ := ol
      simp only at o2 o3
      subst o2; subst o3
      have o1' : (s.heap.push (set0 w)).get? l = some { cls := .type "list", dict := od, data := .seq items nl, slots := osl } := Heap.get?_push_of_some _ o1
      have i1 := F.sub_list_set
      have i2 := F.sub_list_frozenset
      have i3 : (Value.type "list" == Value.type "dict") = false := by decide
      have i4 : (s.heap.push (set0 w)).IsList l items := ⟨_, o1', rfl, nl, rfl⟩
      unfold Builtin.«set.__init__» noKeywords Builtin.Frozenset.updateFrom
      generalize hPI : pyIter = PI
      wp_walk
      subst hPI
      refine wpAny_pyIter_list i4 (wpAny_bind (wpAny_runValue ?_))
      have lS : l < s.heap.objs.size := Heap.lt_size o1
      have hz1 : (s.heap.push (set0 w)).objs.size = s.heap.objs.size + 1 := Heap.size_push ..
      have nI : l ≠ (s.heap.push (set0 w)).objs.size := by rw [hz1]; exact Nat.ne_of_lt (Nat.lt_succ_of_lt lS)
      have nS : s.heap.objs.size ∉ [(s.heap.push (set0 w)).objs.size, l] := by
        rw [hz1]
        intro z
        rcases List.mem_cons.mp z with e | z
        · exact absurd e (Nat.ne_of_lt (Nat.lt_succ_self _))
        · exact absurd (List.mem_singleton.mp z) (Nat.ne_of_gt lS)
      have fresh : ∀ b, s.heap.objs.size ≤ b → s.heap.get? b = none := fun b hb => Heap.get?_none_of_le hb
      have told : ∀ (i : Nat) (v : Value), items[i]? = some v → ∃ p, ks[i]? = some p ∧ v = .ref p.1 := fun i v hv => by
        have e : items.toList[i]? = some v := by rw [Array.getElem?_toList]; exact hv
        rw [hit, List.getElem?_map] at e
        cases z : ks[i]? with
        | none => rw [z] at e; cases e
        | some p => rw [z] at e; exact ⟨p, rfl, (Option.some.inj e).symm⟩
      refine set_loop ((Walks.list (by simp [hh]) _ l nI items).toS) s.heap.objs.size nS ks size few told s.heap hk (fresh _ (Nat.le_refl _)) (fun b hb => fresh b (by rw [List.mem_singleton.mp hb, hz1]; omega)) hu
        (items.size - 0) 0 _ (by omega) (Nat.zero_le _) ⟨⟨_, Heap.get?_push_size _ rfl, rfl, rfl⟩, i4.push _⟩ (fun b o e => Heap.get?_push_of_some _ (Heap.get?_push_of_some _ e)) ?start ?done
      case start =>
        exact ⟨[], #[], 0, _, setTR_fresh (Heap.get?_push_of_some _ at0), Got.zero ks⟩
      case done =>
        intro t L es ep tb hm hS hg hkp
        obtain ⟨h', gg, dd, tk', oo⟩ := t
        have q1 : gg = s.gens := hm.gens
        have q2 : dd = s.drawn := hm.drawn
        have q3 : oo = s.os := hm.os
        subst q1; subst q2; subst q3
        show wpAny _ _ _ _ _ _
        refine wpAny_pure ?_
        show wpAny _ _ (ret Value.none) _ _ _
        rw [size] at hg
        exact wpAny_pure ⟨rfl, h', tk', rfl, L, es, ep, tb, hS, hg, hkp⟩
    · match r, hr with
      | .error e, hr => exact hr
      | .ok (.ret v), hr =>
        obtain ⟨ev, h', tk, et, hM⟩ := hr
        subst ev et
        repeat (any_goals (first | assumption | wp_step))
        exact h h' tk hM
      | .ok .next, hr => exact hr.elim
      | .ok .brk, hr => exact hr.elim
      | .ok .cont, hr => exact hr.elim
  | .ok .next, hr => exact hr.elim
  | .ok .brk, hr => exact hr.elim
  | .ok .cont, hr => exact hr.elim
end
end Fx
namespace Fx
open PySem PySem.Spec PyProof.Rows L2
theorem nodup_le {α : Type} [DecidableEq α] : ∀ {l m : List α}, l.Nodup → (∀ x ∈ l, x ∈ m) → l.length ≤ m.length
  | [], _, _, _ => Nat.zero_le _
  | x :: l, m, h, k => by
    obtain ⟨h1, h2⟩ := List.nodup_cons.mp h
    have hx := k x List.mem_cons_self
    have p : m.Perm (x :: m.erase x) := List.perm_cons_erase hx
    have := nodup_le (m := m.erase x) h2 fun y hy => by
      rcases List.mem_cons.mp (p.mem_iff.mp (k y (List.mem_cons_of_mem _ hy))) with e | z
      · subst e; exact absurd hy h1
      · exact z
    rw [p.length_eq, List.length_cons, List.length_cons]; omega
theorem fewK {ks : List (Addr × List Int)} (h : (nubL (ks.map (·.2))).length < 63) : FewKinds ks := fun L nd sub => by
  have := nodup_le (m := nubL (ks.map (·.2))) nd fun x hx => by
    obtain ⟨p, hp, rfl⟩ := List.mem_map.mp hx
    exact nubL_mem.mpr (List.mem_map.mpr ⟨p, sub p hp, rfl⟩)
  rw [List.length_map] at this; omega
def okRowsW (l : List (List Int)) : Bool := decide ((nubL l).length < 63) && match l with
  | [] => true
  | n :: _ => decide (1 ≤ n.length) && l.all (okRow n.length)
theorem okRowsW_bd {l : List (List Int)} (h : okRowsW l = true) : (nubL l).length < 63 ∧ ∃ d, 1 ≤ d ∧ ∀ n ∈ l, n.length = d ∧ TS.Bd 64 n := by
  unfold okRowsW at h
  simp only [Bool.and_eq_true, decide_eq_true_eq] at h
  refine ⟨h.1, ?_⟩
  cases l with
  | nil => exact ⟨1, Nat.le_refl _, fun n h => nomatch h⟩
  | cons n l =>
    have h2 := h.2
    simp only [Bool.and_eq_true, decide_eq_true_eq] at h2
    exact ⟨n.length, h2.1, fun m hm => okRow_bd (List.all_eq_true.mp h2.2 m hm)⟩
def rSetF (K : PySem.W.Frag) (P : Program) (w : World) : List V → Hp → VK → Prop := fun xs H Q => ∃ (l : Addr) (ks : List (Addr × List Int)), xs = [V.ref l] ∧ (SqT K H l (ks.map fun p => V.ref p.1) ∨ SqL K H l (ks.map fun p => V.ref p.1)) ∧ (∀ p ∈ ks, SqT K H p.1 (p.2.map V.int)) ∧ FewKinds ks ∧
  ∀ a L, H a = none → (∀ p ∈ L, p ∈ ks) → (∀ p ∈ ks, p.2 ∈ L.map (·.2)) → Q (.ref a) (upd H a (SetTO P w a L))
theorem cr_setF {X : Cx} (hc : X.calm = true) (hu : X.A.units + 64 < cLine) : CallR X (.type "set") (rSetF X.K X.prog X.w) := by
  intro pins s σ H xs us Q I r ⟨l, ks, ex, hl, hk, hf, q⟩
  subst ex
  rw [Vals.ref1 r]
  have hn : H s.heap.objs.size = none := I.hok.fresh (Nat.le_refl _)
  have fin : ∀ (h' : Heap) (tk : Nat), SetMade X.prog X.w s ks h' → EP X pins σ Q (.ref s.heap.objs.size) { s with heap := h', toks := tk } := fun h' tk ⟨L, es, ep, t, R, g, k⟩ =>
    ⟨.ref s.heap.objs.size, upd H s.heap.objs.size (SetTO X.prog X.w s.heap.objs.size L), I.laid (t' := tk) k (Nat.le_refl _) (setTO_new R.t0), rfl, q _ L hn (fun p hp => List.mem_of_mem_take (g.sub p hp)) fun p hp => g.all p (by rw [List.take_length]; exact hp)⟩
  rcases hl with hl | hl
  · obtain ⟨its, rv, pl, hz⟩ := I.tuple hl
    exact call_setFT (P := X.prog) (w := X.w) ks (I.ok.hd hc) pl (by simpa using refs_of_vals rv) (fun p hp => I.isT (hk p hp)) hf (by omega) fin
  · obtain ⟨its, rv, pl, hz⟩ := I.list hl
    exact call_setFL (P := X.prog) (w := X.w) ks (I.ok.hd hc) pl.isList (by simpa using refs_of_vals rv) (fun p hp => I.isT (hk p hp)) hf (by omega) fin
def sortSetW : PV → Option PV
  | .list xs => (rowsP xs).bind fun l => if okRowsW l then some (.list ((sortK key64 (nubL l)).map tupP)) else none
  | .tuple xs => (rowsP xs).bind fun l => if okRowsW l then some (.list ((sortK key64 (nubL l)).map tupP)) else none
  | _ => none
@[simp] def eSortSetW (fa : En → RE (List PV)) (ρ : En) : RE PV := (fa ρ).bind fun vs ρ1 => match vs with
  | [v] => (match sortSetW v with | some u => .ok u ρ1 | none => .bad)
  | _ => .bad
section
variable {X : Cx} {C : Cf} {e : Expr} {np cp np2 cp2 : Pos}
theorem ev_sortSetW {fa : En → RE (List PV)} (hc : X.calm = true) (hu : X.A.units + 64 < cLine) (hg : Gl X "sorted") (hm : X.mg "sorted" = none) (hg2 : Gl X "set") (hm2 : X.mg "set" = none) (ha : AV X C .rd [e] fa)
    (he : starEach [e] X.env = (false, eval e X.env) :: starEach [] X.env := by rfl) (hpl : (backTo cp2 (starEach [] X.env)).any (·.1) = false := by rfl)
    (he2 : starEach [.Call (.Name "set" np2) [e] [] cp2] X.env = (false, eval (.Call (.Name "set" np2) [e] [] cp2) X.env) :: starEach [] X.env := by rfl) (hpl2 : (backTo cp (starEach [] X.env)).any (·.1) = false := by rfl) :
    EV X C .fr (.Call (.Name "sorted" np) [.Call (.Name "set" np2) [e] [] cp2] [] cp) (eSortSetW fa) := by
  have hor : CallR X (.type "set") (fun xs H Q => rSetF X.K X.prog X.w xs H Q) := by
    intro pins s σ H xs us Q I r h
    exact cr_setF hc hu pins s σ H xs us Q I r h
  refine PE.imp (pe_callB (cr_sortedT hc) hg hm (by decide +kernel) (pa_cons (pe_callTy hor hg2 hm2 (by decide +kernel) ha (by decide) (by decide) he hpl) pa_nil he2) (by decide) (by decide) he2 hpl2) fun σ H Q ⟨F, O, ρ, r, q⟩ => ?_
  unfold eSortSetW at q
  refine tA.bind r (fun v ρ1 F1 O1 H1 x e1 s1 r1 p1 => ?_) (fun c ρ1 e1 => ?_) fun e1 => ?_
  · rw [e1] at q
    simp only [RE.bind] at q
    split at q
    · rename_i v0
      obtain ⟨z, rfl, hz⟩ := RepRA.one p1
      -- what both ways have in common
      have key : ∀ (ps : List (Addr × List Int)) (a : Addr) (L : List (Addr × List Int)) (u : PV), H1 a = none → (∀ p ∈ ps, TupAt X.K F1 p.1 (p.2.map V.int)) → okRowsW (ps.map (·.2)) = true → u = .list ((sortK key64 (nubL (ps.map (·.2)))).map tupP) →
          (∀ p ∈ L, p ∈ ps) → (∀ p ∈ ps, p.2 ∈ L.map (·.2)) → PostE X.K C .fr F H O σ Q (.ok u ρ1) →
          ∃ (b : Addr) (L0 : List (Addr × List Int)) (d : Nat) (B : Int), [V.ref a] = [V.ref b] ∧ (upd H1 a (SetTO X.prog X.w a L)) b = some (SetTO X.prog X.w b L0) ∧ (∀ p ∈ L0, SqT X.K (upd H1 a (SetTO X.prog X.w a L)) p.1 (p.2.map V.int)) ∧ 1 ≤ d ∧ (∀ p ∈ L0, p.2.length = d ∧ TS.Bd B p.2) ∧
            ∀ (L' : List (Addr × List Int)) (p : Addr), L'.Perm L0 → (L'.map (·.2)).Nodup → L'.length < 64 → L'.Pairwise (fun q r => TS.code B q.2 ≤ TS.code B r.2) → (upd H1 a (SetTO X.prog X.w a L)) p = none → Q (.ref p) (upd (upd H1 a (SetTO X.prog X.w a L)) p (.lst (L'.map fun q => V.ref q.1))) := by
        intro ps a L u na hps hok hu' sub all q
        obtain ⟨h64, d, hd, hb⟩ := okRowsW_bd hok
        obtain ⟨r2, s2⟩ := r1.alloc (o := SetTO X.prog X.w a L) na
        refine ⟨a, L, d, 64, rfl, upd_same, fun p hp => same_sqT r2.sub (hps p (sub p hp)).sq, hd, fun p hp => hb p.2 (List.mem_map.mpr ⟨p, sub p hp, rfl⟩), fun L' p pm nd _ pw n => ?_⟩
        have hsub : ∀ p ∈ L', p ∈ ps := fun p hp => sub p (pm.mem_iff.mp hp)
        have e6 : L'.map (·.2) = sortK key64 (nubL (ps.map (·.2))) := by
          refine rising_unique (f := key64) ((nodup_perm nd (nubL_nodup _) fun y => ?_).trans (sortK_perm _ _).symm) (by rw [List.pairwise_map]; exact pw) (sortK_sorted _ _) fun x hx y hy h => ?_
          · rw [nubL_mem]
            constructor
            · intro h
              obtain ⟨p, hp, rfl⟩ := List.mem_map.mp h
              exact List.mem_map.mpr ⟨p, hsub p hp, rfl⟩
            · intro h
              obtain ⟨p, hp, rfl⟩ := List.mem_map.mp h
              exact (pm.map (·.2)).mem_iff.mpr (all p hp)
          · obtain ⟨p, hp, rfl⟩ := List.mem_map.mp hx
            obtain ⟨p', hp', rfl⟩ := List.mem_map.mp hy
            have b1 := hb p.2 (List.mem_map.mpr ⟨p, hsub p hp, rfl⟩)
            have b2 := hb p'.2 (List.mem_map.mpr ⟨p', hsub p' hp', rfl⟩)
            exact code_inj (b1.1.trans b2.1.symm) b1.2 b2.2 h
        obtain ⟨s3, r3, f3⟩ := r2.newList n (repA_rows (K := X.K) (F := F1) fun p hp => hps p (hsub p hp))
        rw [e6] at f3
        subst hu'
        exact q F1 O1 _ _ ((s1.trans s2).trans s3) r3 ⟨p, rfl, f3.from (s1.trans s2)⟩
      cases hv : sortSetW v0 with
      | none => rw [hv] at q; exact q.elim
      | some u =>
        rw [hv] at q
        unfold sortSetW at hv
        split at hv
        · rename_i xs
          obtain ⟨a, vs, rfl, hl, hvs⟩ := hz.list r1.sub
          cases hr : rowsP xs with
          | none => rw [hr] at hv; cases hv
          | some l =>
            rw [hr] at hv
            simp only [Option.bind_some] at hv
            split at hv
            · rename_i hok
              cases hv
              obtain ⟨ps, e3, e4, e5⟩ := rows_rep hvs hr
              subst e3 e4
              refine ⟨a, ps, rfl, .inr (.of hl), fun p hp => same_sqT r1.sub (e5 p hp).sq, fewK (okRowsW_bd hok).1, fun b L nb sub all => ?_⟩
              exact key ps b L _ nb e5 hok rfl sub all q
            · cases hv
        · rename_i xs
          obtain ⟨a, vs, rfl, hl, hvs⟩ := hz.tuple r1.sub
          cases hr : rowsP xs with
          | none => rw [hr] at hv; cases hv
          | some l =>
            rw [hr] at hv
            simp only [Option.bind_some] at hv
            split at hv
            · rename_i hok
              cases hv
              obtain ⟨ps, e3, e4, e5⟩ := rows_rep hvs hr
              subst e3 e4
              refine ⟨a, ps, rfl, .inl hl.sq, fun p hp => same_sqT r1.sub (e5 p hp).sq, fewK (okRowsW_bd hok).1, fun b L nb sub all => ?_⟩
              exact key ps b L _ nb e5 hok rfl sub all q
            · cases hv
        · cases hv
    · exact q.elim
  · rw [e1] at q; exact q
  · rw [e1] at q; exact q.elim
end
end Fx
namespace Fx
open PySem PySem.Spec PyProof.Rows L2
@[simp] def sW (ws : List Nat) (g : En → SR) (ρ : En) : SR := match g ρ with
  | .nx ρ1 => .nx (wipeE ρ1 ws)
  | .ct ρ1 => .ct (wipeE ρ1 ws)
  | .bk ρ1 => .bk (wipeE ρ1 ws)
  | r => r
theorem Rel.forget {K : PySem.W.Frag} {C : Cf} {F H : Hp} {O : Own} {σ : L2.St} {ρ : En} {vs : List Nat} (r : Rel K C F O σ H ρ) (hi : ∀ i ∈ vs, i ∉ C.ioS) : Rel K C F (freeOs O vs) σ H (wipeE ρ vs) := by
  refine ⟨r.sub, by rw [wipeE_length]; exact r.len, fun j p h => ?_, fun j k a h1 h2 => r.inj j k a (freeOs_le h1).1 (freeOs_le h2).1, fun j a h => r.out j a (freeOs_le h).1, fun p hp => ?_, r.tabs, r.nt⟩
  · obtain ⟨h1, h2⟩ := wipeE_get h
    obtain ⟨v, h3, h4⟩ := r.sl j p h1
    refine ⟨v, h3, ?_⟩
    rw [freeOs_ne h2]; exact h4
  · rw [freeOs_ne fun z => hi p.1 z (List.of_mem_zip (show (p.1, p.2) ∈ C.ioS.zip C.ioA from hp)).1]
    exact r.io p hp
theorem svs_W {X : Cx} {C : Cf} {body : List Stmt} {g : En → SR} {ws : List Nat} (hi : ∀ i ∈ ws, i ∉ C.ioS) (h : SVs X C body g) : SVs X C body (sW ws g) := by
  refine PSs.imp h fun D σ H ⟨F, O, ρ, r, q⟩ => ⟨F, O, ρ, r, ?_⟩
  unfold sW at q
  cases e : g ρ with
  | nx ρ1 => rw [e] at q; exact fun F' O' σ' H' s r1 => q F' (freeOs O' ws) σ' H' (s.trans step_frees) (r1.forget hi)
  | ct ρ1 => rw [e] at q; exact fun F' O' σ' H' s r1 => q F' (freeOs O' ws) σ' H' (s.trans step_frees) (r1.forget hi)
  | bk ρ1 => rw [e] at q; exact fun F' O' σ' H' s r1 => q F' (freeOs O' ws) σ' H' (s.trans step_frees) (r1.forget hi)
  | ret v ρ1 => rw [e] at q; exact q
  | exc c ρ1 => rw [e] at q; exact q
  | bad => rw [e] at q; exact q
/-- a def's end -/
@[simp] def finF (kr : Kd) (is : List Nat) : SR → FR
  | .nx ρ => if kr = .fr then .bad else finR is .none ρ
  | .ret v ρ => finR is v ρ
  | .exc c ρ => finX is c ρ
  | _ => .bad
theorem runF_fin (kr : Kd) (n : Nat) (ms : List PM) (g : En → SR) (pvs : List PV) : runF' kr n ms g pvs = finF kr (ioSl 0 ms) (g (startE n ms pvs)) := by
  unfold runF'
  cases g (startE n ms pvs) <;> rfl
end Fx
namespace Fx
open PySem PySem.Spec PyProof.Rows L2
section
variable {X : Cx}
theorem flat_ints (ns : List Int) : (ns.map V.int).all flatV = true := by
  rw [List.all_map]
  exact List.all_eq_true.mpr fun _ _ => rfl
theorem mt_tup_indexI : MtR X "tuple.index" (fun x xs H Q => ∃ p, ∃ ns : List Int, ∃ k j, x = .ref p ∧ xs = [.int k] ∧ SqT X.K H p (ns.map V.int) ∧ ns[j]? = some k ∧ (∀ m, m < j → ns[m]? ≠ some k) ∧ Q (.int (j : Nat)) H) := by
  intro pins s σ H x xs v us Q I rx rs h
  obtain ⟨p, ys, z, j, rfl, rfl, hq, hy, hno, q⟩ := h
  cases rx
  obtain ⟨u, rfl, t, rfl⟩ := vals1 rs
  obtain ⟨its, r, pl, hz⟩ := I.tuple hq
  obtain ⟨⟨cls, dd, dt, sl⟩, ho, hc, n, hd⟩ := pl
  simp only at hc hd
  subst hc
  subst hd
  have hl : its.toArray.size = ys.length := by rw [List.size_toArray, ← r.length, List.length_map]
  have hj : j < its.toArray.size := by rw [hl]; exact (List.getElem?_eq_some_iff.mp hy).1
  have at' : ∀ (m : Nat) (hm : m < its.toArray.size), ∃ y t', ys[m]? = some y ∧ its.toArray[m] = Value.int y t' := fun m hm => by
    have hm' : m < ys.length := by rw [← hl]; exact hm
    obtain ⟨w, hw, t', hw'⟩ := r.get (i := m) (x := .int ys[m]) (by simp [hm'])
    refine ⟨ys[m], t', List.getElem?_eq_getElem hm', ?_⟩
    have e := (List.getElem?_eq_some_iff.mp hw).2
    rw [← hw', ← e]
    simp
  refine call_meets PySem.F.slot_tuple_index ⟨_, ho, rfl⟩ PySem.F.entry_tuple_index (PySem.F.args_tuple_index_2 _ _) (TI.tuple_indexAt p its.toArray n dd sl (.int z t) (eqU (.int z)) j hj ?_ ?_)
    ⟨ho, fun w hw => mem_eqAt (x := .int z) ⟨t, rfl⟩ rfl r (flat_ints ys) w (by simpa using hw), ⟨.int (j : Nat), H, I.tok _, ⟨_, rfl⟩, q⟩⟩
  · obtain ⟨y, t', h1, h2⟩ := at' j hj
    rw [hy] at h1
    cases h1
    rw [h2]
    show (z == z) = true
    exact beq_self_eq_true z
  · intro m hm hmj
    obtain ⟨y, t', h1, h2⟩ := at' m hm
    rw [h2]
    show (y == z) = false
    exact beq_eq_false_iff_ne.mpr fun e => hno m hmj (e ▸ h1)
def tyW (K : PySem.W.Frag) (T : String) (x : V) (H : Hp) : Prop := tyV K T x H ∨ (T = "tuple" ∧ ∃ a xs, x = .ref a ∧ TupAt K H a xs)
theorem tyW_is {pins : List (Addr × Obj)} {σ : L2.St} {H : Hp} {s : Shared} {T : String} {x : V} {v : Value} (I : Inv X pins σ H s) (r : RelV x v) (ty : tyW X.K T x H) :
    s.TypeIs v T ∧ ∀ a, v = .ref a → ∃ ob, s.heap.get? a = some ob ∧ ob.dict = none := by
  rcases ty with ty | ⟨rfl, a, xs, rfl, h⟩
  · exact tyV_is I r ty
  · cases r
    rcases h with ⟨o, h, d⟩ | ⟨o, its, n, hk, c, d, _⟩
    · obtain ⟨e, q⟩ := (show ObjOk X.prog X.w H s.heap a (.frz o (.tup xs)) from I.hok a _ h)
      obtain ⟨_, its, rr, o2, ho2, hc2, n2, hd2⟩ := (show ObjOk X.prog X.w H s.heap a (.tup xs) from q)
      refine ⟨⟨o2, ho2, hc2⟩, fun b eb => ?_⟩
      cases eb
      exact ⟨o, e, d⟩
    · refine ⟨⟨o, I.kIn _ o hk, c⟩, fun b eb => ?_⟩
      cases eb
      exact ⟨o, I.kIn _ o hk, d⟩
def tBW (K : PySem.W.Frag) (T : String) (r : V → List V → Hp → VK → Prop) (to : TE) (t : TA) : TE := fun σ H Q => to σ H fun x H1 => tyW K T x H1 ∧ t σ H1 fun xs H2 => r x xs H2 Q
variable {o e : Expr} {es : List Expr} {to : TE} {t : TA} {name : Str} {apos cpos : Pos} {T id : String} {r : V → List V → Hp → VK → Prop}
theorem pe_bw (pa : PlainAttrs T) (slot : Slot T name id) (hty : typeOf (.builtin id) = pure (.type "method_descriptor")) (hm : MtR X id r) (ho : PE X o to) (ha : PA X (e :: es) t)
    (hbase : attributeBase o name X.env (eval o X.env) = eval o X.env)
    (hfew : ((backTo cpos (starEach (e :: es) X.env)).all (fun x => !x.1) && (backToKw cpos (keywordEach [] X.env)).all (fun x => x.1.isSome)
      && decide ((e :: es).length + ([] : List Keyword).length + (if ([] : List Keyword).isEmpty then 0 else 1) < 30)) = true)
    (hline : (apos.endLine == cpos.line) = true) (hs : starEach (e :: es) X.env = (false, eval e X.env) :: starEach es X.env) (hplain : (backTo cpos (starEach es X.env)).any (·.1) = false) :
    PE X (.Call (.Attribute o name apos) (e :: es) [] cpos) (tBW X.K T r to t) := by
  refine ⟨fun pins s σ H Q I h => ?_⟩
  refine wpAny_Call_method_late hbase hfew hline rfl (thn (ho.run pins s σ H _ I h) fun v s1 ⟨x, H1, I1, r1, ty, q1⟩ => ?_)
  obtain ⟨h1, h2⟩ := tyW_is I1 r1 ty
  refine ⟨T, id, pa, slot, hty, h1, h2, ?_⟩
  have hA := ha.run cpos pins s1 σ H1 _ I1 q1
  rw [hs] at hA ⊢
  refine Calls.callWith_builtin (by show (false || (backTo cpos (starEach es X.env)).any (·.1)) = false; rw [hplain] <;> rfl) (Calls.evalArgs_plain ?_)
  exact thn hA fun us s2 ⟨vs, H2, I2, r2, q2⟩ => hm pins s2 σ H2 x vs v us Q I2 r1 r2 q2
theorem pe_or2 {t1 t2 : TE} (h : PE X o t1) (k : PE X o t2) : PE X o (fun σ H Q => t1 σ H Q ∨ t2 σ H Q) := ⟨fun pins s σ H Q I q => q.elim (h.run pins s σ H Q I) (k.run pins s σ H Q I)⟩
@[simp] def eMeth (g : PV → List PV → Option PV) (fo : En → RE PV) (fa : En → RE (List PV)) (ρ : En) : RE PV := match fo ρ with
  | .ok v ρ1 => (match fa ρ1 with
    | .ok us ρ2 => (match g v us with | some u => .ok u ρ2 | none => .bad)
    | _ => .bad)
  | .exc c ρ1 => .exc c ρ1
  | .bad => .bad
theorem bw_read {C : Cf} {fo : En → RE PV} {fa : En → RE (List PV)} {F H : Hp} {O : Own} {σ : L2.St} {ρ ρ1 ρ2 : En} {v : PV} {us : List PV} {Q : VK} (rr : Rel X.K C F O σ H ρ) (e1 : fo ρ = .ok v ρ1) (e2 : fa ρ1 = .ok us ρ2)
    (kt : ∀ F1 H1 x, Same F1 H1 → Rep X.K F1 x v → tyW X.K T x H1)
    (k : ∀ F2 O2 H2 x ys, Step F H O F2 H2 O2 → Rel X.K C F2 O2 σ H2 ρ2 → Rep X.K F2 x v → RepA X.K F2 ys us → r x ys H2 Q) : tBW X.K T r (tE X.K C .sh fo) (tA X.K C .sh fa) σ H Q := by
  refine tE.bind rr (fun v' ρ1' F1 O1 H1 x e1' s1 r1 p1 => ?_) (fun c ρ1 e1' => by rw [e1] at e1'; cases e1') fun e1' => by rw [e1] at e1'; cases e1'
  rw [e1] at e1'; cases e1'
  have p1 : Rep X.K F1 x v := p1
  exact ⟨kt F1 H1 x r1.sub p1, tA.bind r1 (fun us' ρ2' F2 O2 H2 ys e2' s2 r2 p2 => by
    rw [e2] at e2'; cases e2'
    exact k F2 O2 H2 x ys (s1.trans s2) r2 (p1.mono s2.ext) p2) (fun c ρ2 e2' => by rw [e2] at e2'; cases e2') fun e2' => by rw [e2] at e2'; cases e2'⟩
def idxIn (ns : List Int) (k : Int) : Option PV := if k ∈ ns then some (.int (ns.idxOf k : Nat)) else none
def indexV : PV → List PV → Option PV
  | .tuple xs, [.int k] => (intsOf xs).bind fun ns => idxIn ns k
  | .list xs, [.int k] => (intsOf xs).bind fun ns => idxIn ns k
  | _, _ => none
theorem idxIn_some {ns : List Int} {k : Int} {u : PV} (h : idxIn ns k = some u) : ∃ j : Nat, u = .int j ∧ ns[j]? = some k ∧ ∀ m, m < j → ns[m]? ≠ some k := by
  unfold idxIn at h
  split at h
  · rename_i hk
    cases h
    refine ⟨ns.idxOf k, rfl, ?_, fun m hm e => ?_⟩
    · have := List.idxOf_lt_length_of_mem hk
      rw [List.getElem?_eq_getElem this, List.getElem_idxOf this]
    · have : ∀ (ns : List Int) (m : Nat), m < ns.idxOf k → ns[m]? ≠ some k := by
        intro ns
        induction ns with
        | nil => intro m h; simp at h
        | cons a ns ih =>
          intro m h
          rw [List.idxOf_cons] at h
          by_cases c : a = k
          · simp [c] at h
          · have c' : (a == k) = false := by simpa using c
            rw [c'] at h
            simp only [cond_false] at h
            cases m with
            | zero => simpa using c
            | succ m => simpa using ih m (by omega)
      exact this ns m hm e
  · cases h
theorem ev_index {C : Cf} {fo : En → RE PV} {fa : En → RE (List PV)} (ho : EV X C .sh o fo) (ha : AV X C .sh [e] fa)
    (hbase : attributeBase o "index" X.env (eval o X.env) = eval o X.env := by rfl)
    (hfew : ((backTo cpos (starEach [e] X.env)).all (fun x => !x.1) && (backToKw cpos (keywordEach [] X.env)).all (fun x => x.1.isSome)
      && decide ([e].length + ([] : List Keyword).length + (if ([] : List Keyword).isEmpty then 0 else 1) < 30)) = true := by rfl)
    (hline : (apos.endLine == cpos.line) = true := by rfl) (hs : starEach [e] X.env = (false, eval e X.env) :: starEach [] X.env := by rfl) (hplain : (backTo cpos (starEach [] X.env)).any (·.1) = false := by rfl) :
    EV X C .sh (.Call (.Attribute o "index" apos) [e] [] cpos) (eMeth indexV fo fa) := by
  have h1 := pe_bw PySem.F.plainAttrs_tuple PySem.F.slot_tuple_index PySem.F.type_tuple_index mt_tup_indexI ho ha hbase hfew hline hs hplain
  have h2 := pe_bw PySem.F.plainAttrs_list PySem.F.slot_list_index PySem.F.type_list_index mt_index ho ha hbase hfew hline hs hplain
  refine PE.imp (pe_or2 h1 h2) fun σ H Q ⟨F, O, ρ, r, q⟩ => ?_
  unfold eMeth at q
  cases e1 : fo ρ with
  | exc c ρ1 => rw [e1] at q; exact .inl ⟨F, O, ρ, r, by rw [e1]; exact q⟩
  | bad => rw [e1] at q; exact q.elim
  | ok v ρ1 =>
    rw [e1] at q
    simp only at q
    cases e2 : fa ρ1 with
    | exc c ρ2 => rw [e2] at q; exact q.elim
    | bad => rw [e2] at q; exact q.elim
    | ok us ρ2 =>
      rw [e2] at q
      simp only at q
      split at q
      case h_2 => exact q.elim
      rename_i u hg
      unfold indexV at hg
      split at hg
      · rename_i xs k
        cases hn : intsOf xs with
        | none => rw [hn] at hg; cases hg
        | some ns =>
          rw [hn] at hg
          obtain ⟨j, rfl, hj, hm⟩ := idxIn_some hg
          refine .inl (bw_read r e1 e2 (fun F1 H1 x sub p => ?_) fun F2 O2 H2 x ys s2 r2 p p2 => ?_)
          · cases p with | tup ht hr => exact .inr ⟨rfl, _, _, rfl, ht.mono sub⟩
          · cases p with
            | tup ht hr =>
              cases p2 with
              | cons a b =>
                cases b; cases a
                obtain ⟨rfl, _⟩ := hr.ints hn
                exact ⟨_, ns, k, j, rfl, rfl, same_sqT r2.sub ht.sq, hj, hm, q F2 O2 H2 _ s2 r2 (.int _)⟩
      · rename_i xs k
        cases hn : intsOf xs with
        | none => rw [hn] at hg; cases hg
        | some ns =>
          rw [hn] at hg
          obtain ⟨j, rfl, hj, hm⟩ := idxIn_some hg
          refine .inr (bw_read r e1 e2 (fun F1 H1 x sub p => ?_) fun F2 O2 H2 x ys s2 r2 p p2 => ?_)
          · cases p with | lst ht hr => exact .inl (.inl ⟨rfl, _, .of (sub _ _ ht)⟩)
          · cases p with
            | lst ht hr =>
              cases p2 with
              | cons a b =>
                cases b; cases a
                obtain ⟨rfl, _⟩ := hr.ints hn
                refine ⟨_, _, .int k, j, .int k, rfl, rfl, .of (r2.sub _ _ ht), rfl, flat_ints ns, by rw [List.getElem?_map, hj]; rfl, by simp [eqV], fun m z' hmj hz' => ?_, q F2 O2 H2 _ s2 r2 (.int _)⟩
                rw [List.getElem?_map] at hz'
                cases hnm : ns[m]? with
                | none => rw [hnm] at hz'; cases hz'
                | some w =>
                  rw [hnm] at hz'
                  cases hz'
                  have : w ≠ k := fun e => hm m hmj (by rw [hnm, e])
                  simp [eqV, this]
      · cases hg
def countV : PV → List PV → Option PV
  | .list xs, [.int k] => (intsOf xs).map fun ns => .int (ns.count k : Nat)
  | _, _ => none
theorem ev_count {C : Cf} {fo : En → RE PV} {fa : En → RE (List PV)} (ho : EV X C .sh o fo) (ha : AV X C .sh [e] fa)
    (hbase : attributeBase o "count" X.env (eval o X.env) = eval o X.env := by rfl)
    (hfew : ((backTo cpos (starEach [e] X.env)).all (fun x => !x.1) && (backToKw cpos (keywordEach [] X.env)).all (fun x => x.1.isSome)
      && decide ([e].length + ([] : List Keyword).length + (if ([] : List Keyword).isEmpty then 0 else 1) < 30)) = true := by rfl)
    (hline : (apos.endLine == cpos.line) = true := by rfl) (hs : starEach [e] X.env = (false, eval e X.env) :: starEach [] X.env := by rfl) (hplain : (backTo cpos (starEach [] X.env)).any (·.1) = false := by rfl) :
    EV X C .sh (.Call (.Attribute o "count" apos) [e] [] cpos) (eMeth countV fo fa) := by
  have h2 := pe_bw PySem.F.plainAttrs_list PySem.F.slot_list_count PySem.F.type_list_count mt_lcount ho ha hbase hfew hline hs hplain
  refine PE.imp h2 fun σ H Q ⟨F, O, ρ, r, q⟩ => ?_
  unfold eMeth at q
  cases e1 : fo ρ with
  | exc c ρ1 => rw [e1] at q; exact ⟨F, O, ρ, r, by rw [e1]; exact q⟩
  | bad => rw [e1] at q; exact q.elim
  | ok v ρ1 =>
    rw [e1] at q
    simp only at q
    cases e2 : fa ρ1 with
    | exc c ρ2 => rw [e2] at q; exact q.elim
    | bad => rw [e2] at q; exact q.elim
    | ok us ρ2 =>
      rw [e2] at q
      simp only at q
      split at q
      case h_2 => exact q.elim
      rename_i u hg
      unfold countV at hg
      split at hg
      · rename_i xs k
        cases hn : intsOf xs with
        | none => rw [hn] at hg; cases hg
        | some ns =>
          rw [hn] at hg
          cases hg
          refine bw_read r e1 e2 (fun F1 H1 x sub p => ?_) fun F2 O2 H2 x ys s2 r2 p p2 => ?_
          · cases p with | lst ht hr => exact .inl (.inl ⟨rfl, _, .of (sub _ _ ht)⟩)
          · cases p with
            | lst ht hr =>
              cases p2 with
              | cons a b =>
                cases b; cases a
                obtain ⟨rfl, _⟩ := hr.ints hn
                exact ⟨_, ns, k, rfl, rfl, .of (r2.sub _ _ ht), q F2 O2 H2 _ s2 r2 (.int _)⟩
      · cases hg
@[simp] def gInsert (ds : List PV) : List PV → Option (List PV × PV)
  | [.int k, v] => if ds.length < 16777216 ∧ 0 ≤ k ∧ k ≤ 1000000 then some (ds.take k.toNat ++ [v] ++ ds.drop k.toNat, .none) else none
  | _ => none
@[simp] def gRemove (ds : List PV) : List PV → Option (List PV × PV)
  | [.int k] => (intsOf ds).bind fun ns => if k ∈ ns then some ((ns.eraseIdx (ns.idxOf k)).map .int, .none) else none
  | _ => none
def mxD (d : Int) : List Int → Int
  | [] => d
  | y :: ys => ys.foldl max y
def rMaxDef (K : PySem.W.Frag) : List V → List V → Hp → VK → Prop := fun vs zs H Q => ∃ (a : Addr) (ns : List Int) (d : Int), vs = [V.ref a] ∧ zs = [.int d] ∧ SqL K H a (ns.map V.int) ∧ Q (.int (mxD d ns)) H
theorem cr_maxDef (hc : X.calm = true) (hu : X.A.units + 64 < cLine) : CallRK X (.builtin "max") [Str.ofString "default"] (rMaxDef X.K) := by
  intro pins s σ H vs zs us ws Q I r rz h
  obtain ⟨a, ns, d, rfl, rfl, hs, q⟩ := h
  obtain ⟨its, rv, hl, _⟩ := I.list hs
  rw [Vals.ref1 r]
  obtain ⟨w1, rfl, t, rfl⟩ := vals1 rz
  have hi := rv.ints
  have hA : PySem.W.HoldAll (α := Int) s.heap its ns := by
    have : ∀ {us : List Value} {ns : List Int}, IntsAre us ns → ReadsAll s.heap us (ns.map PySem.PyData.int) [] := by
      intro us ns hi
      induction hi with
      | nil => exact .nil
      | cons n t _ ih => exact .cons (.int n t) ih
    exact ⟨_, this hi⟩
  have fin : ∀ (m : Int) (h' : Heap) (tk : Nat) (t' : Tok), m = (mxD d ns) → (∀ b o, s.heap.get? b = some o → h'.get? b = some o) → EP X pins σ Q (.int m t') { s with heap := h', toks := tk } := fun m h' tk t' e k => by
    rw [← e] at q
    exact ⟨.int m, H, I.kept k, ⟨_, rfl⟩, q⟩
  refine PySem.W.max_list_datum_default (α := Int) (I.ok.hd hc) hl.isList hA (by show X.A.units + 1 + 0 < cLine; omega) (fun e h' tk k => fin d h' tk t (by rw [e]; rfl) k) fun y ys i v h' tk e hi' ho k => ?_
  obtain ⟨as, r⟩ := ho
  have e2 : PySem.W.maxOf y ys = ys.foldl max y := by
    unfold PySem.W.maxOf
    congr 1
    funext a b
    show (if decide (a < b) = true then b else a) = max a b
    by_cases c : a < b
    · rw [if_pos (by simpa using c)]; omega
    · rw [if_neg (by simpa using c)]; omega
  rw [e2] at r
  have r : Reads h' v (.int (ys.foldl max y)) as := r
  cases r with
  | int i t' => exact fin _ h' tk t' (by rw [e]; rfl) k
@[simp] def maxDefV : List PV → List PV → Option PV
  | [.list xs], [.int d] => (intsOf xs).map fun ns => .int (mxD d ns)
  | _, _ => none
@[simp] def eMaxDef (fa : En → RE (List PV)) (d : Int) (ρ : En) : RE PV := (fa ρ).bind fun vs ρ1 => match maxDefV vs [.int d] with | some u => .ok u ρ1 | none => .bad
theorem ev_maxDef {C : Cf} {fa : En → RE (List PV)} {p pos kp : Pos} {d : Int} {j0 : Nat} {dp : Pos} (hc : X.calm = true) (hu : X.A.units + 64 < cLine) (hg : Gl X "max") (hm : X.mg "max" = none) (ha : AV X C .rd [e] fa)
    (he : backTo pos (starEach [e] X.env) = (false, eval e X.env) :: backTo pos (starEach [] X.env) := by rfl) (hpl : (backTo pos (starEach [e] X.env)).any (·.1) = false := by rfl)
    (hall : (backToKw pos (keywordEach [⟨some "default", .Constant (.int d) j0 dp, kp⟩] X.env)).all (·.1.isSome) = true := by rfl) (hnone : (backToKw pos (keywordEach [⟨some "default", .Constant (.int d) j0 dp, kp⟩] X.env)).any (·.1.isNone) = false := by rfl) (hks : (backToKw pos (keywordEach [⟨some "default", .Constant (.int d) j0 dp, kp⟩] X.env)).filterMap (·.1) = [Str.ofString "default"] := by rfl) :
    EV X C .sh (.Call (.Name "max" p) [e] [⟨some "default", .Constant (.int d) j0 dp, kp⟩] pos) (eMaxDef fa d) := by
  refine PE.imp (pe_callBK (cr_maxDef hc hu) hg hm (by decide +kernel) ha (pk_cons pe_int pk_nil) (by decide) (by decide) he hpl hall hnone hks) fun σ H Q ⟨F, O, ρ, r, q⟩ => ?_
  unfold eMaxDef at q
  refine tA.bind r (fun v ρ1 F1 O1 H1 x e1 s1 r1 p1 => ?_) (fun c ρ1 e1 => ?_) fun e1 => ?_
  · rw [e1] at q
    simp only [RE.bind] at q
    split at q
    · rename_i u hg
      unfold maxDefV at hg
      split at hg
      · rename_i xs d' hx
        cases hx
        cases hn : intsOf xs with
        | none => rw [hn] at hg; cases hg
        | some ns =>
          rw [hn] at hg
          cases hg
          obtain ⟨z, rfl, hz⟩ := RepRA.one p1
          obtain ⟨a, vs, rfl, hl, hv⟩ := hz.list r1.sub
          obtain ⟨rfl, _⟩ := hv.ints hn
          exact ⟨a, ns, d, rfl, rfl, .of hl, q F1 O1 H1 _ s1 r1 (.int _)⟩
      · cases hg
    · exact q.elim
  · rw [e1] at q; exact q
  · rw [e1] at q; exact q.elim
end
end Fx
namespace Fx
open PySem PySem.Spec PyProof.Rows L2
section
variable {X : Cx} {C : Cf}
def enumP : Nat → List PV → List PV
  | _, [] => []
  | k, x :: xs => .tuple [.int (k : Nat), x] :: enumP (k + 1) xs
@[simp] def iEnu (fa : En → RE (List PV)) (ρ : En) : RE (List PV) := (fa ρ).bind fun v ρ1 => match v with
  | [.list xs] => .ok (enumP 0 xs) ρ1
  | _ => .bad
@[simp] def max3V : List PV → Option PV
  | [.int i, .int j, .int k] => some (.int (max (max i j) k))
  | _ => none
/-- o[k] = v, then on -/
@[simp] def subK (i : Nat) (fi : En → RE PV) (v : PV) (ρ1 : En) (k : En → SR) : SR := match ρ1.at i with
  | none => .bad
  | some _ => (fi ρ1).toS fun kk ρ2 => match ρ2.at i with
    | some (.o c) => (match setV c kk v with | some c' => k (ρ2.set i (some (.o c'))) | none => .bad)
    | _ => .bad
@[simp] def sSub2 (i : Nat) (fi : En → RE PV) (j : Nat) (fj fv : En → RE PV) (ρ : En) : SR := (fv ρ).toS fun v ρ1 => match v with
  | .tuple [a, b] => subK i fi a ρ1 fun ρ2 => subK j fj b ρ2 fun ρ3 => .nx ρ3
  | _ => .bad
@[simp] def sParO (i j : Nat) (fa fb : En → RE PV) (ρ : En) : SR := (fa ρ).toS fun v ρ1 => (fb ρ1).toS fun w ρ2 => .nx ((ρ2.set i (some (.o v))).set j (some (.o w)))
end
end Fx
namespace Fx
open PySem PySem.Spec PyProof.Rows L2
section
variable {X : Cx} {C : Cf}
@[simp] def iEnuW (fa : En → RE (List PV)) (ρ : En) : RE (List PV) := (fa ρ).bind fun v ρ1 => match v with
  | [.tuple xs] => .ok (enumP 0 xs) ρ1
  | _ => .bad
end
end Fx
namespace Fx
open PySem PySem.Spec PyProof.Rows L2 PySem.Calls
section
variable {prog : Program} {w : World} {A : Around} {E : Value → Shared → Prop} {s : Shared}
/-- the zip as it stands ahead of turn k; a tuple that it gave out is still there -/
structure ZAt (h : Heap) (z TI TO i1 i2 l1 l2 : Addr) (k : Nat) : Prop where
  ti : IsPair h TI (.ref i1) (.ref i2)
  it1 : h.IsTupleIter i1 l1 k
  it2 : h.IsTupleIter i2 l2 k
  st : (IsZip h z TI TO .none ∧ ∃ a b, IsPair h TO a b) ∨ ∃ (T : Addr) (f : Bool) (o : Obj), IsZipHeld h z TI TO T f ∧ h.get? T = some o ∧ T ≠ z ∧ T ≠ TO ∧ T ≠ i1 ∧ T ≠ i2
theorem ZAt.keep {h h' : Heap} {z TI TO i1 i2 l1 l2 : Addr} {k : Nat} (x : ZAt h z TI TO i1 i2 l1 l2 k) (S : Addr) (nS : S ≠ z ∧ S ≠ TI ∧ S ≠ TO ∧ S ≠ i1 ∧ S ≠ i2) (hT : ∀ T o, h.get? T = some o → ∃ o', h'.get? T = some o') (kp : ∀ b o, b ≠ S → h.get? b = some o → h'.get? b = some o) : ZAt h' z TI TO i1 i2 l1 l2 k := by
  obtain ⟨n1, n2, n3, n4, n5⟩ := nS
  refine ⟨kp _ _ (Ne.symm n2) x.ti, x.it1.at fun o e => kp _ o (Ne.symm n4) e, x.it2.at fun o e => kp _ o (Ne.symm n5) e, ?_⟩
  rcases x.st with ⟨q, a, b, y⟩ | ⟨T, f, o, q, y, m⟩
  · exact .inl ⟨kp _ _ (Ne.symm n1) q, a, b, kp _ _ (Ne.symm n3) y⟩
  · obtain ⟨o', e⟩ := hT T o y
    exact .inr ⟨T, f, o', kp _ _ (Ne.symm n1) q, e, m⟩
end
end Fx
namespace Fx
open PySem PySem.Spec PyProof.Rows L2 PySem.Calls
end Fx
namespace Fx
open PySem PySem.Spec PyProof.Rows L2 PySem.Calls
end Fx
namespace Fx
open PySem PySem.Spec PyProof.Rows L2
section
variable {X : Cx} {C : Cf}
/-- list(zip(t, u)) -/
@[simp] def eLZ (fa : En → RE (List PV)) (ρ : En) : RE PV := (fa ρ).bind fun v ρ1 => match v with
  | [.tuple xs, .tuple ys] => .ok (.list (zipP xs ys)) ρ1
  | _ => .bad
end
end Fx
namespace Fx
open PySem PySem.Spec PyProof.Rows L2
section
variable {X : Cx} {C : Cf}
@[simp] def eLenSet (fa : En → RE PV) (ρ : En) : RE PV := (fa ρ).bind fun v ρ1 => match v with
  | .tuple xs => (match intsOf xs with | some ns => if ns.length ≤ 4000 then .ok (.int ((nubL ns).length : Nat)) ρ1 else .bad | none => .bad)
  | _ => .bad
@[simp] def eTR1 (fa : En → RE PV) (ρ : En) : RE PV := (fa ρ).bind fun v ρ1 => match v with | .int j => if -1000000 ≤ j ∧ j ≤ 1000000 then .ok (.tuple (Fx.upTo 0 (j - 0).toNat)) ρ1 else .bad | _ => .bad
end
end Fx
namespace Fx
open PySem PySem.Spec PyProof.Rows L2
end Fx
namespace Fx
open PySem PySem.Spec PyProof.Rows L2
section
variable {X : Cx} {C : Cf} {a b : Expr} {rest : List Expr} {fa fb : En → RE PV} {pos : Pos}
@[simp] def eOrV (fa fb : En → RE PV) (ρ : En) : RE PV := (fa ρ).bind fun v ρ1 => match truth v with
  | some true => .ok v ρ1
  | some false => fb ρ1
  | none => .bad
end
end Fx
namespace Fx
open PySem PySem.Spec PyProof.Rows L2
def isK (i : Int) : PV → Bool
  | .int j => decide (j = i)
  | _ => false
def dG (ds : List (PV × PV)) (i : Int) : Option PV := (ds.find? fun e => isK i e.1).map (·.2)
def dP (ds : List (PV × PV)) (i : Int) (w : PV) : List (PV × PV) := if ds.any (fun e => isK i e.1) then ds.map (fun e => if isK i e.1 then (e.1, w) else e) else ds ++ [(.int i, w)]
def keysI : List (PV × PV) → Option (List Int)
  | [] => some []
  | (.int i, _) :: r => (keysI r).map (i :: ·)
  | _ => none
section
variable {K : PySem.W.Frag} {F : Hp}
theorem isK_kP (i : Int) (k : Key) : isK i (kP k) = decide (k = .inl i) := by
  cases k with
  | inl j => simp [kP, isK]
  | inr s => simp [kP, isK]
theorem RepK.len : ∀ {ks : List (Key × V)} {ds : List (PV × PV)}, RepK K F ks ds → ks.length = ds.length
  | _, _, .nil => rfl
  | _, _, .cons _ r => by simp [RepK.len r]
theorem RepK.get (i : Int) : ∀ {ks : List (Key × V)} {ds : List (PV × PV)}, RepK K F ks ds → (∃ v d, valV ks (.inl i) = some v ∧ dG ds i = some d ∧ Rep K F v d) ∨ (valV ks (.inl i) = none ∧ dG ds i = none)
  | _, _, .nil => .inr ⟨rfl, rfl⟩
  | _, _, .cons (k := k) (v := v) (d := d) (ds := ds) h r => by
    have e := isK_kP i k
    by_cases c : k = .inl i
    · refine .inl ⟨v, d, valV_pos c, ?_, h⟩
      rw [decide_eq_true c] at e
      simp [dG, List.find?_cons, e]
    · rw [decide_eq_false c] at e
      have q : dG ((kP k, d) :: ds) i = dG ds i := by simp [dG, List.find?_cons, e]
      rw [valV_neg c, q]
      exact RepK.get i r
theorem RepK.any (i : Int) : ∀ {ks : List (Key × V)} {ds : List (PV × PV)}, RepK K F ks ds → (ks.any fun kv => decide (kv.1 = .inl i)) = ds.any fun e => isK i e.1
  | _, _, .nil => rfl
  | _, _, .cons (k := k) h r => by rw [List.any_cons, List.any_cons, isK_kP, RepK.any i r]
theorem RepK.repl (i : Int) {y : V} {w : PV} (hy : Rep K F y w) : ∀ {ks : List (Key × V)} {ds : List (PV × PV)}, RepK K F ks ds → RepK K F (ks.map fun kv => if kv.1 = .inl i then (kv.1, y) else kv) (ds.map fun e => if isK i e.1 then (e.1, w) else e)
  | _, _, .nil => .nil
  | _, _, .cons (k := k) h r => by
    rw [List.map_cons, List.map_cons]
    simp only [isK_kP]
    by_cases c : k = .inl i
    · simp only [c, decide_true, if_true]
      exact .cons hy (RepK.repl i hy r)
    · simp only [c, decide_false, if_false, Bool.false_eq_true]
      exact .cons h (RepK.repl i hy r)
theorem RepK.snoc (i : Int) {y : V} {w : PV} (hy : Rep K F y w) : ∀ {ks : List (Key × V)} {ds : List (PV × PV)}, RepK K F ks ds → RepK K F (ks ++ [(.inl i, y)]) (ds ++ [(.int i, w)])
  | _, _, .nil => .cons (k := .inl i) hy .nil
  | _, _, .cons h r => .cons h (RepK.snoc i hy r)
theorem RepK.put (i : Int) {y : V} {w : PV} (hy : Rep K F y w) {ks : List (Key × V)} {ds : List (PV × PV)} (r : RepK K F ks ds) : RepK K F (putK ks (.inl i) y) (dP ds i w) := by
  unfold putK dP
  rw [RepK.any i r]
  split
  · exact RepK.repl i hy r
  · exact RepK.snoc i hy r
theorem RepK.keysI : ∀ {ks : List (Key × V)} {ds : List (PV × PV)} {is : List Int}, RepK K F ks ds → Fx.keysI ds = some is → ks.map (·.1) = is.map Sum.inl
  | _, _, is, .nil, h => by cases h; rfl
  | _, _, is, .cons (k := k) (vs := vs) (ds := ds) hh r, h => by
    cases k with
    | inl j =>
      simp only [kP, Fx.keysI] at h
      cases q : Fx.keysI ds with
      | none => rw [q] at h; cases h
      | some js =>
        rw [q] at h
        cases h
        rw [List.map_cons, List.map_cons, RepK.keysI r q]
    | inr s => simp only [kP, Fx.keysI] at h; cases h
end
section
variable {X : Cx} {C : Cf} {e : Expr} {f : En → RE PV} {i : Nat} {x : Str} {pos : Pos}
/-- {k: v}, owned -/
@[simp] def eD1 (fk fv : En → RE PV) (ρ : En) : RE PV := (fk ρ).bind fun k ρ1 => (fv ρ1).bind fun v ρ2 => match k with | .int j => .ok (.dict [(.int j, v)]) ρ2 | _ => .bad
/-- d.get(k, v) -/
@[simp] def eDget (i : Nat) (fk fd : En → RE PV) (ρ : En) : RE PV := match ρ.at i with
  | some (.o (.dict _)) => (fk ρ).bind fun k ρ1 => (fd ρ1).bind fun d ρ2 => match k with
    | .int j => (match ρ2.at i with | some (.o (.dict ds)) => .ok ((dG ds j).getD d) ρ2 | _ => .bad)
    | _ => .bad
  | _ => .bad
/-- d[k] -/
@[simp] def eDix (i : Nat) (fk : En → RE PV) (ρ : En) : RE PV := match ρ.at i with
  | some (.o (.dict _)) => (fk ρ).bind fun k ρ1 => match k with
    | .int j => (match ρ1.at i with | some (.o (.dict ds)) => (match dG ds j with | some v => .ok v ρ1 | none => .bad) | _ => .bad)
    | _ => .bad
  | _ => .bad
/-- k in d -/
@[simp] def eDin (i : Nat) (fk : En → RE PV) (ρ : En) : RE PV := (fk ρ).bind fun k ρ1 => match k with
    | .int j => (match ρ1.at i with | some (.o (.dict ds)) => .ok (.bool (dG ds j).isSome) ρ1 | _ => .bad)
    | _ => .bad
/-- d[k] = v -/
@[simp] def sDsetI (i : Nat) (fk fv : En → RE PV) (ρ : En) : SR := (fv ρ).toS fun v ρ1 => match ρ1.at i with
  | some (.o (.dict _)) => (fk ρ1).toS fun k ρ2 => (match k with
    | .int j => (match ρ2.at i with | some (.o (.dict ds)) => (if ds.length < 16777216 then .nx (ρ2.set i (some (.o (.dict (dP ds j v))))) else .bad) | _ => .bad)
    | _ => .bad)
  | _ => .bad
/-- list(d), sorted(d) -/
@[simp] def dkeysV : List PV → Option PV
  | [.dict ds] => (keysI ds).map fun is => .list (is.map .int)
  | _ => none
@[simp] def dsortV : List PV → Option PV
  | [.dict ds] => (keysI ds).bind fun is => if is.length < 64 then some (.list ((sortK id is).map .int)) else none
  | _ => none
theorem RepR.dk {K : PySem.W.Frag} {F H : Hp} {y : V} {ds : List (PV × PV)} {is : List Int} (sub : Same F H) (h : RepR K F H y (.dict ds)) (hk : keysI ds = some is) : ∃ a ks, y = .ref a ∧ H a = some (.dK ks) ∧ ks.map (·.1) = is.map Sum.inl := by
  cases h with
  | s r =>
    cases r with
    | scr => cases hk
    | dK h1 h2 => exact ⟨_, _, rfl, sub _ _ h1, h2.keysI hk⟩
  | o r =>
    cases r with
    | dK h1 h2 => exact ⟨_, _, rfl, h1, h2.keysI hk⟩
end
end Fx
namespace Fx
open PySem PySem.Spec PyProof.Rows L2
end Fx
namespace Fx
open PySem PySem.Spec PyProof.Rows L2
@[simp] def iZipM (fa : En → RE (List PV)) (ρ : En) : RE (List PV) := (fa ρ).bind fun v ρ1 => match v with
  | [.tuple xs, .list ys] => .ok (zipP xs ys) ρ1
  | _ => .bad
end Fx
namespace Fx
open PySem PySem.Spec PyProof.Rows L2
section
variable {X : Cx} {C : Cf}
@[simp] def eSortSetI (fa : En → RE PV) (ρ : En) : RE PV := (fa ρ).bind fun v ρ1 => match v with
  | .tuple xs => (match intsOf xs with | some ns => if ns.length < 64 then .ok (.list ((sortK id (nubL ns)).map .int)) ρ1 else .bad | none => .bad)
  | _ => .bad
end
end Fx
namespace Fn
open PySem PySem.Spec PyProof.Rows L2 Fx
def c_MOST : PV := .int 6
end Fn
namespace Fn
open PySem PySem.Spec PyProof.Rows L2 Fx
def s_is_whole : En → SR :=
  (sRet (eAnd (eIsi "int" (eVar 0)) (eNot (eIsi "bool" (eVar 0)))))
def f_is_whole : List PV → FR := runF' .sh 1 [.s] s_is_whole
end Fn
namespace Fn
open PySem PySem.Spec PyProof.Rows L2 Fx
def s_is_thing : En → SR :=
  (sRet (eAnd (eFun f_is_whole [] (aCons (eVar 1) aNil)) (eChn leP ltP' (eC (.int 0)) (eVar 1) (eVar 0))))
def f_is_thing : List PV → FR := runF' .sh 2 [.s, .s] s_is_thing
theorem f_is_thing_eq (x0 x1 : PV) : f_is_thing [x0, x1] = finF .sh [] (s_is_thing [some (.s x0), some (.s x1)]) := runF_fin _ _ _ s_is_thing _
end Fn
namespace Fn
open PySem PySem.Spec PyProof.Rows L2 Fx
def s_is_number : En → SR :=
  (sRet (eAnd (eFun f_is_whole [] (aCons (eVar 0) aNil)) (eChn leP leP (eC (.int 1)) (eVar 0) (eC c_MOST))))
def f_is_number : List PV → FR := runF' .sh 1 [.s] s_is_number
theorem f_is_number_eq (x0 : PV) : f_is_number [x0] = finF .sh [] (s_is_number [some (.s x0)]) := runF_fin _ _ _ s_is_number _
end Fn
namespace Fn
open PySem PySem.Spec PyProof.Rows L2 Fx
def s_is_pair_c0 : En → RE PV :=
  (eLC (.n 2) [2] (iSeq (eVar 1)) bYes (eFun f_is_thing [] (aCons (eVar 0) (aCons (eVar 2) aNil))))
def s_is_pair : En → SR :=
  (sRet (eAnd (eIsi "tuple" (eVar 1)) (eAnd (eCmp eqP (pE (eCal lenV (aCons (eVar 1) aNil)) (eC (.int 2)))) (eCal allV (aCons s_is_pair_c0 aNil)))))
def f_is_pair : List PV → FR := runF' .sh 3 [.s, .s] s_is_pair
theorem f_is_pair_eq (x0 x1 : PV) : f_is_pair [x0, x1] = finF .sh [] (s_is_pair [some (.s x0), some (.s x1), none]) := runF_fin _ _ _ s_is_pair _
end Fn
namespace Fn
open PySem PySem.Spec PyProof.Rows L2 Fx
def s_closed_c0 : En → RE PV :=
  (eLC (.n 3) [3] (iSeq (eVar 1)) bYes (eTup (aCons (eVar 3) (aCons (eC (.bool true)) aNil))))
def s_closed_b1 : En → SR :=
  (sIf (bAnd (bDin 2 (eTup (aCons (eVar 5) (aCons (eVar 4) aNil)))) (bDin 2 (eTup (aCons (eVar 4) (aCons (eVar 6) aNil))))) (sDset 2 (eTup (aCons (eVar 5) (aCons (eVar 6) aNil))) (eC (.bool true))) sNil)
def s_closed_l2 : En → SR :=
  (sFor (.n 6) (iR1 (aCons (eVar 0) aNil)) (sW [6] s_closed_b1))
def s_closed_b3 : En → SR :=
  s_closed_l2
def s_closed_l4 : En → SR :=
  (sFor (.n 5) (iR1 (aCons (eVar 0) aNil)) (sW [5, 6] s_closed_b3))
def s_closed_b5 : En → SR :=
  s_closed_l4
def s_closed_l6 : En → SR :=
  (sFor (.n 4) (iR1 (aCons (eVar 0) aNil)) (sW [4, 5, 6] s_closed_b5))
def s_closed : En → SR :=
  (sSeq (sDnew 2 (aCons s_closed_c0 aNil))
    (sSeq s_closed_l6
    (sRet (eCal sortA (aCons (eDlist 2) aNil)))))
def f_closed : List PV → FR := runF' .fr 7 [.s, .s] s_closed
theorem f_closed_eq (x0 x1 : PV) : f_closed [x0, x1] = finF .fr [] (s_closed [some (.s x0), some (.s x1), none, none, none, none, none]) := runF_fin _ _ _ s_closed _
end Fn
namespace Fn
open PySem PySem.Spec PyProof.Rows L2 Fx
def s_is_order_c0 : En → RE PV :=
  (eLC (.n 3) [3] (iSeq (eVar 2)) bYes (eAnd (eFun f_is_pair [] (aCons (eVar 1) (aCons (eVar 3) aNil))) (eCmp neP (pE (eOp idxV (pE (eVar 3) (eC (.int 0)))) (eOp idxV (pE (eVar 3) (eC (.int 1))))))))
def s_is_order : En → SR :=
  (sSeq (sIf (bOr (bNot (bVal (eIsi "tuple" (eVar 0)))) (bOr (bCmp neP (pE (eCal lenV (aCons (eVar 0) aNil)) (eC (.int 2)))) (bOr (bNot (bVal (eFun f_is_number [] (aCons (eOp idxV (pE (eVar 0) (eC (.int 0)))) aNil)))) (bNot (bVal (eIsi "tuple" (eOp idxV (pE (eVar 0) (eC (.int 1)))))))))) (sRet (eC (.bool false))) sNil)
    (sSeq (sTup [1, 2] (eVar 0))
    (sSeq (sIf (bNot (bVal (eCal allV (aCons s_is_order_c0 aNil)))) (sRet (eC (.bool false))) sNil)
    (sRet (eCmp eqP (pE (eFun f_closed [] (aCons (eVar 1) (aCons (eVar 2) aNil))) (eCal listV (aCons (eVar 2) aNil))))))))
def f_is_order : List PV → FR := runF' .sh 4 [.s] s_is_order
theorem f_is_order_eq (x0 : PV) : f_is_order [x0] = finF .sh [] (s_is_order [some (.s x0), none, none, none]) := runF_fin _ _ _ s_is_order _
end Fn
namespace Fn
open PySem PySem.Spec PyProof.Rows L2 Fx
def s_need_order : En → SR :=
  (sIf (bNot (bVal (eFun f_is_order [] (aCons (eVar 0) aNil)))) (sRaise 0) sNil)
def f_need_order : List PV → FR := runF' .sh 1 [.s] s_need_order
theorem f_need_order_eq (x0 : PV) : f_need_order [x0] = finF .sh [] (s_need_order [some (.s x0)]) := runF_fin _ _ _ s_need_order _
end Fn
namespace Fn
open PySem PySem.Spec PyProof.Rows L2 Fx
def s_order_of_c0 : En → RE PV :=
  (eLC (.n 2) [2] (iSeq (eVar 1)) bYes (eFun f_is_pair [] (aCons (eVar 0) (aCons (eVar 2) aNil))))
def s_order_of_c1 : En → RE PV :=
  (eLC (.t [4, 5]) [4, 5] (iSeq (eVar 3)) bYes (eCmp eqP (pE (eVar 4) (eVar 5))))
def s_order_of : En → SR :=
  (sSeq (sIf (bNot (bVal (eFun f_is_number [] (aCons (eVar 0) aNil)))) (sRaise 1) sNil)
    (sSeq (sIf (bOr (bNot (bVal (eIsi "list" (eVar 1)))) (bNot (bVal (eCal allV (aCons s_order_of_c0 aNil))))) (sRaise 2) sNil)
    (sSeq (sAsg 3 (eFun f_closed [] (aCons (eVar 0) (aCons (eVar 1) aNil))))
    (sSeq (sIf (bVal (eCal anyV (aCons s_order_of_c1 aNil))) (sRaise 3) sNil)
    (sRet (eTup (aCons (eVar 0) (aCons (eCal tupleV (aCons (eVar 3) aNil)) aNil))))))))
def f_order_of : List PV → FR := runF' .sh 6 [.s, .s] s_order_of
theorem f_order_of_eq (x0 x1 : PV) : f_order_of [x0, x1] = finF .sh [] (s_order_of [some (.s x0), some (.s x1), none, none, none, none]) := runF_fin _ _ _ s_order_of _
end Fn
namespace Fn
open PySem PySem.Spec PyProof.Rows L2 Fx
def s_are_loose : En → SR :=
  (sRet (eAnd (eCmp neP (pE (eVar 1) (eVar 2))) (eAnd (eCmp niP (pE (eTup (aCons (eVar 1) (aCons (eVar 2) aNil))) (eOp idxV (pE (eVar 0) (eC (.int 1)))))) (eCmp niP (pE (eTup (aCons (eVar 2) (aCons (eVar 1) aNil))) (eOp idxV (pE (eVar 0) (eC (.int 1)))))))))
def f_are_loose : List PV → FR := runF' .sh 3 [.s, .s, .s] s_are_loose
theorem f_are_loose_eq (x0 x1 x2 : PV) : f_are_loose [x0, x1, x2] = finF .sh [] (s_are_loose [some (.s x0), some (.s x1), some (.s x2)]) := runF_fin _ _ _ s_are_loose _
end Fn
namespace Fn
open PySem PySem.Spec PyProof.Rows L2 Fx
def s_all_loose_c0 : En → RE PV :=
  (eLC (.n 3) [3] (iR2 (aCons (eOp addV (pE (eVar 2) (eC (.int 1)))) (aCons (eOp idxV (pE (eVar 0) (eC (.int 0)))) aNil))) (bVal (eFun f_are_loose [] (aCons (eVar 0) (aCons (eVar 2) (aCons (eVar 3) aNil))))) (eTup (aCons (eVar 2) (aCons (eVar 3) aNil))))
def s_all_loose_b1 : En → SR :=
  (sExpr (eMut 1 gExtend (aCons s_all_loose_c0 aNil)))
def s_all_loose_l2 : En → SR :=
  (sFor (.n 2) (iR1 (aCons (eOp idxV (pE (eVar 0) (eC (.int 0)))) aNil)) (sW [2] s_all_loose_b1))
def s_all_loose : En → SR :=
  (sSeq (sAsgO 1 (eLst aNil))
    (sSeq s_all_loose_l2
    (sRet (eMv 1))))
def f_all_loose : List PV → FR := runF' .fr 4 [.s] s_all_loose
theorem f_all_loose_eq (x0 : PV) : f_all_loose [x0] = finF .fr [] (s_all_loose [some (.s x0), none, none, none]) := runF_fin _ _ _ s_all_loose _
end Fn
namespace Fn
open PySem PySem.Spec PyProof.Rows L2 Fx
def s_loose_pairs : En → SR :=
  (sSeq (sExpr (eFun f_need_order [] (aCons (eVar 0) aNil)))
    (sRet (eFun f_all_loose [] (aCons (eVar 0) aNil))))
def f_loose_pairs : List PV → FR := runF' .fr 1 [.s] s_loose_pairs
theorem f_loose_pairs_eq (x0 : PV) : f_loose_pairs [x0] = finF .fr [] (s_loose_pairs [some (.s x0)]) := runF_fin _ _ _ s_loose_pairs _
end Fn
namespace Fn
open PySem PySem.Spec PyProof.Rows L2 Fx
def s_turned_c0 : En → RE PV :=
  (eLC (.t [1, 2]) [1, 2] (iSeq (eOp idxV (pE (eVar 0) (eC (.int 1))))) bYes (eTup (aCons (eVar 2) (aCons (eVar 1) aNil))))
def s_turned : En → SR :=
  (sSeq (sExpr (eFun f_need_order [] (aCons (eVar 0) aNil)))
    (sRet (eTup (aCons (eOp idxV (pE (eVar 0) (eC (.int 0)))) (aCons (eCal tupleV (aCons (eCal sortA (aCons s_turned_c0 aNil)) aNil)) aNil)))))
def f_turned : List PV → FR := runF' .sh 3 [.s] s_turned
theorem f_turned_eq (x0 : PV) : f_turned [x0] = finF .sh [] (s_turned [some (.s x0), none, none]) := runF_fin _ _ _ s_turned _
end Fn
namespace Fn
open PySem PySem.Spec PyProof.Rows L2 Fx
def s_row_good_c0 : En → RE PV :=
  (eLC (.n 2) [2] (iSeq (eVar 1)) bYes (eFun f_is_thing [] (aCons (eOp idxV (pE (eVar 0) (eC (.int 0)))) (aCons (eVar 2) aNil))))
def s_row_good_c1 : En → RE PV :=
  (eLC (.t [3, 4]) [3, 4] (iSeq (eOp idxV (pE (eVar 0) (eC (.int 1))))) bYes (eCmp ltP' (pE (eMeth indexV (eVar 1) (aCons (eVar 3) aNil)) (eMeth indexV (eVar 1) (aCons (eVar 4) aNil)))))
def s_row_good : En → SR :=
  (sSeq (sIf (bOr (bNot (bVal (eIsi "tuple" (eVar 1)))) (bNot (bVal (eCal allV (aCons s_row_good_c0 aNil))))) (sRet (eC (.bool false))) sNil)
    (sSeq (sIf (bCmp neP (pE (eCal sortA (aCons (eVar 1) aNil)) (eLR1 (eOp idxV (pE (eVar 0) (eC (.int 0))))))) (sRet (eC (.bool false))) sNil)
    (sRet (eCal allV (aCons s_row_good_c1 aNil)))))
def f_row_good : List PV → FR := runF' .sh 5 [.s, .s] s_row_good
theorem f_row_good_eq (x0 x1 : PV) : f_row_good [x0, x1] = finF .sh [] (s_row_good [some (.s x0), some (.s x1), none, none, none]) := runF_fin _ _ _ s_row_good _
end Fn
namespace Fn
open PySem PySem.Spec PyProof.Rows L2 Fx
def s_is_row : En → SR :=
  (sSeq (sExpr (eFun f_need_order [] (aCons (eVar 0) aNil)))
    (sRet (eFun f_row_good [] (aCons (eVar 0) (aCons (eVar 1) aNil)))))
def f_is_row : List PV → FR := runF' .sh 2 [.s, .s] s_is_row
theorem f_is_row_eq (x0 x1 : PV) : f_is_row [x0, x1] = finF .sh [] (s_is_row [some (.s x0), some (.s x1)]) := runF_fin _ _ _ s_is_row _
end Fn
namespace Fn
open PySem PySem.Spec PyProof.Rows L2 Fx
def s_need_row : En → SR :=
  (sIf (bNot (bVal (eFun f_row_good [] (aCons (eVar 0) (aCons (eVar 1) aNil))))) (sRaise 5) sNil)
def f_need_row : List PV → FR := runF' .sh 2 [.s, .s] s_need_row
theorem f_need_row_eq (x0 x1 : PV) : f_need_row [x0, x1] = finF .sh [] (s_need_row [some (.s x0), some (.s x1)]) := runF_fin _ _ _ s_need_row _
end Fn
namespace Fn
open PySem PySem.Spec PyProof.Rows L2 Fx
def s_may_come_c0 : En → RE PV :=
  (eLC (.t [4, 5]) [4, 5] (iSeq (eOp idxV (pE (eVar 0) (eC (.int 1))))) (bCmp eqP (pE (eVar 5) (eVar 3))) (eCmp inP (pE (eVar 4) (eVar 1))))
def s_may_come_b1 : En → SR :=
  (sIf (bAnd (bCmp niP (pE (eVar 3) (eVar 1))) (bVal (eCal allV (aCons s_may_come_c0 aNil)))) (sExpr (eMut 2 gAppend (aCons (eVar 3) aNil))) sNil)
def s_may_come_l2 : En → SR :=
  (sFor (.n 3) (iR1 (aCons (eOp idxV (pE (eVar 0) (eC (.int 0)))) aNil)) (sW [3] s_may_come_b1))
def s_may_come : En → SR :=
  (sSeq (sAsgO 2 (eLst aNil))
    (sSeq s_may_come_l2
    (sRet (eMv 2))))
def f_may_come : List PV → FR := runF' .fr 6 [.s, .s] s_may_come
theorem f_may_come_eq (x0 x1 : PV) : f_may_come [x0, x1] = finF .fr [] (s_may_come [some (.s x0), some (.s x1), none, none, none, none]) := runF_fin _ _ _ s_may_come _
end Fn
namespace Fn
open PySem PySem.Spec PyProof.Rows L2 Fx
def s_rows_of_c0 : En → RE PV :=
  (eLC (.n 5) [5] (iSeq (eFun f_may_come [] (aCons (eVar 0) (aCons (eVar 4) aNil)))) bYes (eOp addV (pE (eVar 4) (eTup (aCons (eVar 5) aNil)))))
def s_rows_of_b1 : En → SR :=
  (sExpr (eMut 3 gExtend (aCons s_rows_of_c0 aNil)))
def s_rows_of_l2 : En → SR :=
  (sFor (.n 4) (iSeq (eVar 1)) (sW [4] s_rows_of_b1))
def s_rows_of_b3 : En → SR :=
  (sSeq (sAsgO 3 (eLst aNil))
    (sSeq s_rows_of_l2
    (sAsg 1 (eShr 3))))
def s_rows_of_l4 : En → SR :=
  (sFor (.n 2) (iR1 (aCons (eOp idxV (pE (eVar 0) (eC (.int 0)))) aNil)) (sW [2, 3, 4] s_rows_of_b3))
def s_rows_of : En → SR :=
  (sSeq (sAsg 1 (eLst (aCons (eTup aNil) aNil)))
    (sSeq s_rows_of_l4
    (sRet (eVar 1))))
def f_rows_of : List PV → FR := runF' .sh 6 [.s] s_rows_of
theorem f_rows_of_eq (x0 : PV) : f_rows_of [x0] = finF .sh [] (s_rows_of [some (.s x0), none, none, none, none, none]) := runF_fin _ _ _ s_rows_of _
end Fn
namespace Fn
open PySem PySem.Spec PyProof.Rows L2 Fx
def s_rows_many : En → SR :=
  (sSeq (sExpr (eFun f_need_order [] (aCons (eVar 0) aNil)))
    (sRet (eCal lenV (aCons (eFun f_rows_of [] (aCons (eVar 0) aNil)) aNil))))
def f_rows_many : List PV → FR := runF' .sh 1 [.s] s_rows_many
theorem f_rows_many_eq (x0 : PV) : f_rows_many [x0] = finF .sh [] (s_rows_many [some (.s x0)]) := runF_fin _ _ _ s_rows_many _
end Fn
namespace Fn
open PySem PySem.Spec PyProof.Rows L2 Fx
def s_apart : En → SR :=
  (sRet (eCal absV (aCons (eOp subV (pE (eMeth indexV (eVar 0) (aCons (eOp idxV (pE (eVar 1) (eC (.int 0)))) aNil)) (eMeth indexV (eVar 0) (aCons (eOp idxV (pE (eVar 1) (eC (.int 1)))) aNil)))) aNil)))
def f_apart : List PV → FR := runF' .sh 2 [.s, .s] s_apart
theorem f_apart_eq (x0 x1 : PV) : f_apart [x0, x1] = finF .sh [] (s_apart [some (.s x0), some (.s x1)]) := runF_fin _ _ _ s_apart _
end Fn
namespace Fn
open PySem PySem.Spec PyProof.Rows L2 Fx
def s_span_by_c0 : En → RE PV :=
  (eLC (.n 2) [2] (iSeq (eVar 0)) bYes (eFun f_apart [] (aCons (eVar 1) (aCons (eVar 2) aNil))))
def s_span_by : En → SR :=
  (sRet (eMaxDef (aCons s_span_by_c0 aNil) 0))
def f_span_by : List PV → FR := runF' .sh 3 [.s, .s] s_span_by
theorem f_span_by_eq (x0 x1 : PV) : f_span_by [x0, x1] = finF .sh [] (s_span_by [some (.s x0), some (.s x1), none]) := runF_fin _ _ _ s_span_by _
end Fn
namespace Fn
open PySem PySem.Spec PyProof.Rows L2 Fx
def s_span_of : En → SR :=
  (sSeq (sExpr (eFun f_need_order [] (aCons (eVar 0) aNil)))
    (sSeq (sExpr (eFun f_need_row [] (aCons (eVar 0) (aCons (eVar 1) aNil))))
    (sRet (eFun f_span_by [] (aCons (eFun f_all_loose [] (aCons (eVar 0) aNil)) (aCons (eVar 1) aNil))))))
def f_span_of : List PV → FR := runF' .sh 2 [.s, .s] s_span_of
theorem f_span_of_eq (x0 x1 : PV) : f_span_of [x0, x1] = finF .sh [] (s_span_of [some (.s x0), some (.s x1)]) := runF_fin _ _ _ s_span_of _
end Fn
namespace Fn
open PySem PySem.Spec PyProof.Rows L2 Fx
def s_farthest_b0 : En → SR :=
  (sIf (bCmp eqP (pE (eFun f_apart [] (aCons (eVar 1) (aCons (eVar 4) aNil))) (eVar 3))) (sRet (eVar 4)) sNil)
def s_farthest_l1 : En → SR :=
  (sFor (.n 4) (iSeq (eVar 2)) (sW [4] s_farthest_b0))
def s_farthest : En → SR :=
  (sSeq (sExpr (eFun f_need_order [] (aCons (eVar 0) aNil)))
    (sSeq (sExpr (eFun f_need_row [] (aCons (eVar 0) (aCons (eVar 1) aNil))))
    (sSeq (sAsg 2 (eFun f_all_loose [] (aCons (eVar 0) aNil)))
    (sSeq (sAsg 3 (eFun f_span_by [] (aCons (eVar 2) (aCons (eVar 1) aNil))))
    (sSeq s_farthest_l1
    (sRet (eC (.none))))))))
def f_farthest : List PV → FR := runF' .sh 5 [.s, .s] s_farthest
theorem f_farthest_eq (x0 x1 : PV) : f_farthest [x0, x1] = finF .sh [] (s_farthest [some (.s x0), some (.s x1), none, none, none]) := runF_fin _ _ _ s_farthest _
end Fn
namespace Fn
open PySem PySem.Spec PyProof.Rows L2 Fx
def s_spanned_c0 : En → RE PV :=
  (eLC (.n 2) [2] (iSeq (eFun f_rows_of [] (aCons (eVar 0) aNil))) bYes (eTup (aCons (eFun f_span_by [] (aCons (eVar 1) (aCons (eVar 2) aNil))) (aCons (eVar 2) aNil))))
def s_spanned : En → SR :=
  (sSeq (sAsg 1 (eFun f_all_loose [] (aCons (eVar 0) aNil)))
    (sRet s_spanned_c0))
def f_spanned : List PV → FR := runF' .fr 3 [.s] s_spanned
theorem f_spanned_eq (x0 : PV) : f_spanned [x0] = finF .fr [] (s_spanned [some (.s x0), none, none]) := runF_fin _ _ _ s_spanned _
end Fn
namespace Fn
open PySem PySem.Spec PyProof.Rows L2 Fx
def s_least_of_c0 : En → RE PV :=
  (eLC (.t [1, 2]) [1, 2] (iSeq (eFun f_spanned [] (aCons (eVar 0) aNil))) bYes (eVar 1))
def s_least_of : En → SR :=
  (sRet (eCal minV (aCons s_least_of_c0 aNil)))
def f_least_of : List PV → FR := runF' .sh 3 [.s] s_least_of
theorem f_least_of_eq (x0 : PV) : f_least_of [x0] = finF .sh [] (s_least_of [some (.s x0), none, none]) := runF_fin _ _ _ s_least_of _
end Fn
namespace Fn
open PySem PySem.Spec PyProof.Rows L2 Fx
def s_least_span : En → SR :=
  (sSeq (sExpr (eFun f_need_order [] (aCons (eVar 0) aNil)))
    (sRet (eFun f_least_of [] (aCons (eVar 0) aNil))))
def f_least_span : List PV → FR := runF' .sh 1 [.s] s_least_span
theorem f_least_span_eq (x0 : PV) : f_least_span [x0] = finF .sh [] (s_least_span [some (.s x0)]) := runF_fin _ _ _ s_least_span _
end Fn
namespace Fn
open PySem PySem.Spec PyProof.Rows L2 Fx
def s_spans_c0 : En → RE PV :=
  (eLC (.t [2, 3]) [2, 3] (iSeq (eFun f_spanned [] (aCons (eVar 0) aNil))) bYes (eVar 2))
def s_spans_c1 : En → RE PV :=
  (eLC (.n 2) [2] (iR1 (aCons (eOp addV (pE (eCal maxV (aCons (eVar 1) aNil)) (eC (.int 1)))) aNil)) bYes (eMeth countV (eVar 1) (aCons (eVar 2) aNil)))
def s_spans : En → SR :=
  (sSeq (sExpr (eFun f_need_order [] (aCons (eVar 0) aNil)))
    (sSeq (sAsg 1 s_spans_c0)
    (sRet s_spans_c1)))
def f_spans : List PV → FR := runF' .fr 4 [.s] s_spans
theorem f_spans_eq (x0 : PV) : f_spans [x0] = finF .fr [] (s_spans [some (.s x0), none, none, none]) := runF_fin _ _ _ s_spans _
end Fn
namespace Fn
open PySem PySem.Spec PyProof.Rows L2 Fx
def s_best_of_c0 : En → RE PV :=
  (eLC (.t [3, 4]) [3, 4] (iSeq (eVar 1)) bYes (eVar 3))
def s_best_of_c1 : En → RE PV :=
  (eLC (.t [3, 4]) [3, 4] (iSeq (eVar 1)) (bCmp eqP (pE (eVar 3) (eVar 2))) (eVar 4))
def s_best_of : En → SR :=
  (sSeq (sAsg 1 (eFun f_spanned [] (aCons (eVar 0) aNil)))
    (sSeq (sAsg 2 (eCal minV (aCons s_best_of_c0 aNil)))
    (sRet s_best_of_c1)))
def f_best_of : List PV → FR := runF' .fr 5 [.s] s_best_of
theorem f_best_of_eq (x0 : PV) : f_best_of [x0] = finF .fr [] (s_best_of [some (.s x0), none, none, none, none]) := runF_fin _ _ _ s_best_of _
end Fn
namespace Fn
open PySem PySem.Spec PyProof.Rows L2 Fx
def s_best_rows : En → SR :=
  (sSeq (sExpr (eFun f_need_order [] (aCons (eVar 0) aNil)))
    (sRet (eFun f_best_of [] (aCons (eVar 0) aNil))))
def f_best_rows : List PV → FR := runF' .fr 1 [.s] s_best_rows
theorem f_best_rows_eq (x0 : PV) : f_best_rows [x0] = finF .fr [] (s_best_rows [some (.s x0)]) := runF_fin _ _ _ s_best_rows _
end Fn
namespace Fn
open PySem PySem.Spec PyProof.Rows L2 Fx
def s_first_best : En → SR :=
  (sSeq (sExpr (eFun f_need_order [] (aCons (eVar 0) aNil)))
    (sRet (eOp idxV (pE (eFun f_best_of [] (aCons (eVar 0) aNil)) (eC (.int 0))))))
def f_first_best : List PV → FR := runF' .sh 1 [.s] s_first_best
theorem f_first_best_eq (x0 : PV) : f_first_best [x0] = finF .sh [] (s_first_best [some (.s x0)]) := runF_fin _ _ _ s_first_best _
end Fn
namespace Fn
open PySem PySem.Spec PyProof.Rows L2 Fx
def s_Lcell_at : En → SR :=
  (sSeq (sIf (bCmp ltP' (pE (eVar 1) (eCal lenV (aCons (eVar 0) aNil)))) (sRet (eOp idxV (pE (eVar 0) (eVar 1)))) sNil)
    (sRet (eC (.int 0))))
def f_Lcell_at : List PV → FR := runF' .sh 2 [.s, .s] s_Lcell_at
theorem f_Lcell_at_eq (x0 x1 : PV) : f_Lcell_at [x0, x1] = finF .sh [] (s_Lcell_at [some (.s x0), some (.s x1)]) := runF_fin _ _ _ s_Lcell_at _
end Fn
namespace Fn
open PySem PySem.Spec PyProof.Rows L2 Fx
def s_Lstate : En → SR :=
  (sSeq (sAsg 2 (eFun f_Lcell_at [] (aCons (eVar 0) (aCons (eVar 1) aNil))))
    (sSeq (sIf (bCmp geP (pE (eVar 2) (eOp powV (pE (eC (.int 10)) (eC (.int 18)))))) (sRet (eLst (aCons (eOp subV (pE (eVar 2) (eOp powV (pE (eC (.int 10)) (eC (.int 18)))))) (aCons (eC (.bool true)) aNil)))) sNil)
    (sRet (eLst (aCons (eOp modV (pE (eVar 2) (eC (.int 2147483647)))) (aCons (eC (.bool false)) aNil))))))
def f_Lstate : List PV → FR := runF' .fr 3 [.s, .s] s_Lstate
theorem f_Lstate_eq (x0 x1 : PV) : f_Lstate [x0, x1] = finF .fr [] (s_Lstate [some (.s x0), some (.s x1), none]) := runF_fin _ _ _ s_Lstate _
end Fn
namespace Fn
open PySem PySem.Spec PyProof.Rows L2 Fx
def s_Ltake : En → SR :=
  (sSeq (sIf (bTru (eOp idxV (pL 0 (eC (.int 1))))) (sSeq (sAsg 2 (eOp modV (pE (eOp idxV (pL 0 (eC (.int 0)))) (eVar 1))))
    (sSeq (sSub 0 (eC (.int 0)) (eOp divV (pE (eOp idxV (pL 0 (eC (.int 0)))) (eVar 1))))
    (sRet (eVar 2)))) sNil)
    (sSeq (sSub 0 (eC (.int 0)) (eOp modV (pE (eOp addV (pE (eOp mulV (pE (eOp idxV (pL 0 (eC (.int 0)))) (eC (.int 48271)))) (eC (.int 29)))) (eC (.int 2147483647)))))
    (sSeq (sAsg 3 (eOp modV (pE (eOp addV (pE (eOp addV (pE (eOp mulV (pE (eOp idxV (pL 0 (eC (.int 0)))) (eOp idxV (pL 0 (eC (.int 0)))))) (eOp mulV (pE (eC (.int 39373)) (eOp idxV (pL 0 (eC (.int 0)))))))) (eC (.int 7)))) (eC (.int 2147483629)))))
    (sSeq (sAsg 3 (eOp modV (pE (eOp addV (pE (eOp mulV (pE (eVar 3) (eVar 3))) (eOp mulV (pE (eC (.int 16807)) (eVar 3))))) (eC (.int 2147483587)))))
    (sRet (eOp modV (pE (eOp divV (pE (eVar 3) (eC (.int 8)))) (eVar 1))))))))
def f_Ltake : List PV → FR := runF' .sh 4 [.o, .s] s_Ltake
theorem f_Ltake_eq (x0 x1 : PV) : f_Ltake [x0, x1] = finF .sh [0] (s_Ltake [some (.o x0), some (.s x1), none, none]) := runF_fin _ _ _ s_Ltake _
end Fn
namespace Fn
open PySem PySem.Spec PyProof.Rows L2 Fx
def s_Lmixed_row_b0 : En → SR :=
  (sExpr (eMut 3 gAppend (aCons (eMut 2 gPopAt (aCons (eFun f_Ltake [0] (aIo 0 (aCons (eCal lenV (aLate 2 aNil)) aNil))) aNil)) aNil)))
def s_Lmixed_row_l1 : En → SR :=
  (sWhile (bCmp neP (pL 2 (eLst aNil))) s_Lmixed_row_b0 40)
def s_Lmixed_row : En → SR :=
  (sSeq (sAsgO 2 (eCal listV (aCons (eVar 1) aNil)))
    (sSeq (sAsgO 3 (eLst aNil))
    (sSeq s_Lmixed_row_l1
    (sRet (eMv 3)))))
def f_Lmixed_row : List PV → FR := runF' .fr 4 [.o, .s] s_Lmixed_row
theorem f_Lmixed_row_eq (x0 x1 : PV) : f_Lmixed_row [x0, x1] = finF .fr [0] (s_Lmixed_row [some (.o x0), some (.s x1), none, none]) := runF_fin _ _ _ s_Lmixed_row _
end Fn
namespace Fn
open PySem PySem.Spec PyProof.Rows L2 Fx
def s_Lclosed_c0 : En → RE PV :=
  (eLC (.t [5, 6]) [5, 6] (iSeq (eVar 1)) (bCmp eqP (pE (eVar 4) (eVar 5))) (eTup (aCons (eVar 3) (aCons (eVar 6) aNil))))
def s_Lclosed_b1 : En → SR :=
  (sExpr (eMut 2 gExtend (aCons s_Lclosed_c0 aNil)))
def s_Lclosed_l2 : En → SR :=
  (sFor (.t [3, 4]) (iSeq (eVar 1)) (sW [3, 4] s_Lclosed_b1))
def s_Lclosed_b3 : En → SR :=
  (sSeq (sAsgO 2 (eCal listV (aCons (eVar 1) aNil)))
    (sSeq s_Lclosed_l2
    (sSeq (sAsgO 2 (eSortSetW (aLate 2 aNil)))
    (sSeq (sIf (bCmp eqP (pL 2 (eVar 1))) (sRet (eVar 1)) sNil)
    (sAsg 1 (eShr 2))))))
def s_Lclosed_l4 : En → SR :=
  (sWhile (bVal (eC (.bool true))) (sW [2, 3, 4] s_Lclosed_b3) 40)
def s_Lclosed : En → SR :=
  (sSeq (sAsg 1 (eSortSetW (aCons (eVar 0) aNil)))
    s_Lclosed_l4)
def f_Lclosed : List PV → FR := runF' .sh 7 [.s] s_Lclosed
theorem f_Lclosed_eq (x0 : PV) : f_Lclosed [x0] = finF .sh [] (s_Lclosed [some (.s x0), none, none, none, none, none, none]) := runF_fin _ _ _ s_Lclosed _
end Fn
namespace Fn
open PySem PySem.Spec PyProof.Rows L2 Fx
def s_Lorder_c0 : En → RE PV :=
  (eLC (.n 7) [7] (iSeq (eVar 3)) bYes (eFun f_Ltake [0] (aIo 0 (aCons (eC (.int 3)) aNil))))
def s_Lorder_b1 : En → SR :=
  (sSeq (sAsg 10 (eLst (aCons (eCmp eqP (pE (eFun f_Ltake [0] (aIo 0 (aCons (eC (.int 6)) aNil))) (eC (.int 0)))) (aCons (eCmp eqP (pE (eFun f_Ltake [0] (aIo 0 (aCons (eC (.int 2)) aNil))) (eC (.int 0)))) (aCons (eCmp gtP (pE (eFun f_Ltake [0] (aIo 0 (aCons (eC (.int 4)) aNil))) (eC (.int 0)))) aNil)))))
    (sSeq (sAsg 10 (eOp addL (pE (eVar 10) (eLst (aCons (eCmp ltP' (pE (eOp idxV (pE (eVar 6) (eVar 8))) (eOp idxV (pE (eVar 6) (eVar 9))))) (aCons (eCmp eqP (pE (eOp idxV (pE (eVar 6) (eVar 8))) (eOp idxV (pE (eVar 6) (eVar 9))))) aNil))))))
    (sIf (bTru (eOp idxV (pE (eVar 10) (eVar 4)))) (sExpr (eMut 5 gAppend (aCons (eTup (aCons (eOp idxV (pE (eVar 3) (eVar 8))) (aCons (eOp idxV (pE (eVar 3) (eVar 9))) aNil))) aNil))) sNil)))
def s_Lorder_l2 : En → SR :=
  (sFor (.n 9) (iR2 (aCons (eOp addV (pE (eVar 8) (eC (.int 1)))) (aCons (eVar 2) aNil))) (sW [9, 10] s_Lorder_b1))
def s_Lorder_b3 : En → SR :=
  s_Lorder_l2
def s_Lorder_l4 : En → SR :=
  (sFor (.n 8) (iR1 (aCons (eVar 2) aNil)) (sW [8, 9, 10] s_Lorder_b3))
def s_Lorder_c5 : En → RE PV :=
  (eLC (.n 9) [9] (iR1 (aCons (eVar 2) aNil)) (bCmp ltP' (pE (eOp idxV (pE (eVar 6) (eVar 8))) (eOp idxV (pE (eVar 6) (eVar 9))))) (eTup (aCons (eVar 8) (aCons (eVar 9) aNil))))
def s_Lorder_b6 : En → SR :=
  (sAsgO 5 (eOp addL (pL 5 s_Lorder_c5)))
def s_Lorder_l7 : En → SR :=
  (sFor (.n 8) (iR1 (aCons (eVar 2) aNil)) (sW [8] s_Lorder_b6))
def s_Lorder : En → SR :=
  (sSeq (sAsg 2 (eOp subV (pE (eVar 1) (eOp idxV (pE (eLst (aCons (eC (.int 0)) (aCons (eC (.int 0)) (aCons (eC (.int 1)) (aCons (eC (.int 2)) (aCons (eC (.int 0)) (aCons (eC (.int 3)) (aCons (eC (.int 1)) (aCons (eC (.int 4)) aNil))))))))) (eFun f_Ltake [0] (aIo 0 (aCons (eC (.int 8)) aNil))))))))
    (sSeq (sAsg 2 (eCal max2V (aCons (eC (.int 1)) (aCons (eVar 2) aNil))))
    (sSeq (sAsg 3 (eFun f_Lmixed_row [0] (aIo 0 (aCons (eLR1 (eVar 2)) aNil))))
    (sSeq (sAsg 4 (eFun f_Ltake [0] (aIo 0 (aCons (eC (.int 5)) aNil))))
    (sSeq (sAsgO 5 (eLst aNil))
    (sSeq (sAsg 6 s_Lorder_c0)
    (sSeq s_Lorder_l4
    (sSeq (sIf (bCmp eqP (pE (eVar 4) (eC (.int 3)))) (sSeq (sAsgO 5 (eLst aNil))
    s_Lorder_l7) sNil)
    (sRet (eTup (aCons (eVar 2) (aCons (eCal tupleV (aCons (eFun f_Lclosed [] (aCons (eShr 5) aNil)) aNil)) aNil))))))))))))
def f_Lorder : List PV → FR := runF' .sh 11 [.o, .s] s_Lorder
theorem f_Lorder_eq (x0 x1 : PV) : f_Lorder [x0, x1] = finF .sh [0] (s_Lorder [some (.o x0), some (.s x1), none, none, none, none, none, none, none, none, none]) := runF_fin _ _ _ s_Lorder _
end Fn
namespace Fn
open PySem PySem.Spec PyProof.Rows L2 Fx
def s_Lsome_row_c0 : En → RE PV :=
  (eLC (.n 5) [5] (iR1 (aCons (eOp idxV (pE (eVar 1) (eC (.int 0)))) aNil)) (bCmp niP (pE (eVar 5) (eVar 2))) (eVar 5))
def s_Lsome_row_c1 : En → RE PV :=
  (eLC (.t [7, 8]) [7, 8] (iSeq (eOp idxV (pE (eVar 1) (eC (.int 1))))) (bAnd (bCmp eqP (pE (eVar 8) (eVar 5))) (bCmp niP (pE (eVar 7) (eVar 2)))) (eVar 7))
def s_Lsome_row_c2 : En → RE PV :=
  (eLC (.n 5) [5] (iSeq (eVar 4)) (bCmp eqP (pE s_Lsome_row_c1 (eLst aNil))) (eVar 5))
def s_Lsome_row_b3 : En → SR :=
  (sSeq (sAsg 4 s_Lsome_row_c0)
    (sSeq (sAsg 6 s_Lsome_row_c2)
    (sAsg 2 (eOp addV (pE (eVar 2) (eTup (aCons (eOp idxV (pE (eVar 6) (eFun f_Ltake [0] (aIo 0 (aCons (eCal lenV (aCons (eVar 6) aNil)) aNil))))) aNil)))))))
def s_Lsome_row_l4 : En → SR :=
  (sFor (.n 3) (iR1 (aCons (eOp idxV (pE (eVar 1) (eC (.int 0)))) aNil)) (sW [3, 4, 6] s_Lsome_row_b3))
def s_Lsome_row : En → SR :=
  (sSeq (sAsg 2 (eTup aNil))
    (sSeq s_Lsome_row_l4
    (sRet (eVar 2))))
def f_Lsome_row : List PV → FR := runF' .sh 9 [.o, .s] s_Lsome_row
theorem f_Lsome_row_eq (x0 x1 : PV) : f_Lsome_row [x0, x1] = finF .sh [0] (s_Lsome_row [some (.o x0), some (.s x1), none, none, none, none, none, none, none]) := runF_fin _ _ _ s_Lsome_row _
end Fn
namespace Fx
open PySem PySem.Spec PyProof.Rows L2
section
variable {K : PySem.W.Frag} {C : Cf} {F H : Hp} {O : Own} {σ : L2.St} {ρ : En}
abbrev LamsAt (C : Cf) (F H : Hp) : List V → List Nat → Prop := Paired fun v j => ∃ f c', v = V.ref f ∧ F f = some (C.lam j f c') ∧ H c' = some (LamX.CodeO c' C.lq)
theorem LamsAt.mono {F' H' : Hp} {vs : List V} {js : List Nat} (e : Same F F') (c : CodeKept H H') (h : LamsAt C F H vs js) : LamsAt C F' H' vs js :=
  paired_map (fun _ _ ⟨f, c1, a, b, b1⟩ => ⟨f, c1, a, e _ _ b, c _ _ b1⟩) h
theorem LamsAt.snoc {v : V} {j : Nat} (q : ∃ f c', v = V.ref f ∧ F f = some (C.lam j f c') ∧ H c' = some (LamX.CodeO c' C.lq)) : ∀ {vs : List V} {js : List Nat}, LamsAt C F H vs js → LamsAt C F H (vs ++ [v]) (js ++ [j])
  | _, _, .nil => .cons q .nil
  | _, _, .cons a b => .cons a (LamsAt.snoc q b)
end
theorem LamsAt.length {C : Cf} {F H : Hp} : ∀ {vs : List V} {js : List Nat}, LamsAt C F H vs js → vs.length = js.length
  | _, _, .nil => rfl
  | _, _, .cons _ b => by simp [LamsAt.length b]
end Fx
namespace Fx
open PySem PySem.Spec PyProof.Rows L2
/-- the readings of a def's lambdas -/
inductive LamsV (X : Cx) (C : Cf) (L : List (Arguments × Expr × Scope)) (k : Nat) : Nat → List (En → RE PV) → Prop
  | nil {j : Nat} : LamsV X C L k j []
  | cons {j : Nat} {pr : Arguments} {e : Expr} {sc : Scope} {fE : En → RE PV} {tbl : List (En → RE PV)} : L[j]? = some (pr, e, sc) → LamX.LamS X.env.scope sc → (∀ (q : Str) (cl : List (Str × Addr)) (pm cv ctv : Value), bindArgs (PySem.W.kla_fn "<lambda>" q pr e sc cl pm cv ctv) ⟨[], []⟩ = pure []) →
      (∀ (A : Around) (outer : List Env) (s : Shared) (H : Hp) (E : XK) (f c' : Addr), Room k (LamX.lamCx X A outer s H E sc f c').A → EV (LamX.lamCx X A outer s H E sc f c') (C.wishE E) .sh e fE) → LamsV X C L k (j + 1) tbl → LamsV X C L k j (fE :: tbl)
theorem LamsV.get {X : Cx} {C : Cf} {L : List (Arguments × Expr × Scope)} {k : Nat} : ∀ {j : Nat} {tbl : List (En → RE PV)} {n : Nat} {fE : En → RE PV}, LamsV X C L k j tbl → tbl[n]? = some fE → ∃ pr e sc, L[j + n]? = some (pr, e, sc) ∧ LamX.LamS X.env.scope sc ∧ (∀ (q : Str) (cl : List (Str × Addr)) (pm cv ctv : Value), bindArgs (PySem.W.kla_fn "<lambda>" q pr e sc cl pm cv ctv) ⟨[], []⟩ = pure []) ∧
      (∀ (A : Around) (outer : List Env) (s : Shared) (H : Hp) (E : XK) (f c' : Addr), Room k (LamX.lamCx X A outer s H E sc f c').A → EV (LamX.lamCx X A outer s H E sc f c') (C.wishE E) .sh e fE)
  | _, _, _, _, .nil, h => by simp at h
  | j, _, 0, _, .cons a b c d r, h => by
    simp at h; subst h
    exact ⟨_, _, _, a, b, c, d⟩
  | j, _, n + 1, _, .cons a b c d r, h => by
    obtain ⟨pr, e, sc, z⟩ := LamsV.get r (n := n) (by simpa using h)
    refine ⟨pr, e, sc, ?_⟩
    rw [show j + (n + 1) = j + 1 + n by omega]; exact z
end Fx
namespace Fx
open PySem PySem.Spec PyProof.Rows L2
section
variable {K : PySem.W.Frag} {H H' : Hp}
/-- all but the lists -/
def noLst (F : Hp) : Hp := fun b => match F b with | some (.lst _) => none | o => o
theorem noLst_some {b : Addr} {o : HO} (h : H b = some o) (n : ∀ xs, o ≠ .lst xs) : noLst H b = some o := by
  unfold noLst; rw [h]
  cases o with
  | lst xs => exact absurd rfl (n xs)
  | _ => rfl
end
mutual
/-- no list, no dict within -/
def noL : PV → Bool
  | .tuple ds => noLA ds
  | .int _ => true
  | .str _ => true
  | .none => true
  | .bool _ => true
  | _ => false
def noLA : List PV → Bool
  | [] => true
  | d :: ds => noL d && noLA ds
end
section
variable {K : PySem.W.Frag} {F : Hp}
mutual
theorem Rep.noL : ∀ {v : V} {d : PV}, Rep K F v d → Fx.noL d = true → Rep K (noLst F) v d
  | _, _, .non, _ => .non
  | _, _, .bl b, _ => .bl b
  | _, _, .int i, _ => .int i
  | _, _, .str x, _ => .str x
  | _, _, .lst h r, e => by simp [Fx.noL] at e
  | _, _, .scr h r, e => by simp [Fx.noL] at e
  | _, _, .tup h r, e => .tup (match h with | .inl ⟨o, h, d⟩ => .inl ⟨o, noLst_some h (fun _ z => nomatch z), d⟩ | .inr h => .inr h) (RepA.noL r (by unfold Fx.noL at e; exact e))
  | _, _, .dK h r, e => by simp [Fx.noL] at e
theorem RepA.noL : ∀ {v : List V} {d : List PV}, RepA K F v d → noLA d = true → RepA K (noLst F) v d
  | _, _, .nil, _ => .nil
  | _, _, .cons h r, e => by
    unfold noLA at e
    rw [Bool.and_eq_true] at e
    exact .cons (Rep.noL h e.1) (RepA.noL r e.2)
end
end
/-- values that are the same in every heap -/
@[simp] def atomB : PV → Bool
  | .int _ => true
  | .str _ => true
  | .none => true
  | .bool _ => true
  | _ => false
def PostH (K : PySem.W.Frag) (C : Cf) (F H : Hp) (O : Own) (σ : L2.St) (Q : List V → Hp → Prop) : RE (List PV) → Prop
  | .ok vs ρ' => ∀ F' O' H' xs, Step F H O F' H' O' → Rel K C F' O' σ H' ρ' → RepA K H' xs vs → Q xs H'
  | .exc c ρ' => ExcP K C F H O σ c ρ'
  | .bad => False
def tH (K : PySem.W.Frag) (C : Cf) (f : En → RE (List PV)) : TA := fun σ H Q => ∃ F O ρ, Rel K C F O σ H ρ ∧ PostH K C F H O σ Q (f ρ)
theorem tH.bind {K : PySem.W.Frag} {C : Cf} {F H : Hp} {O : Own} {σ : L2.St} {ρ : En} {f : En → RE (List PV)} {Q : List V → Hp → Prop} (r : Rel K C F O σ H ρ)
    (ok : ∀ v ρ1 F1 O1 H1 x, f ρ = .ok v ρ1 → Step F H O F1 H1 O1 → Rel K C F1 O1 σ H1 ρ1 → RepA K H1 x v → Q x H1) (ex : ∀ c ρ1, f ρ = .exc c ρ1 → ExcP K C F H O σ c ρ1) (nb : f ρ ≠ .bad) : tH K C f σ H Q := by
  refine ⟨F, O, ρ, r, ?_⟩
  cases e : f ρ with
  | ok v ρ1 => exact fun F1 O1 H1 x s1 r1 p1 => ok v ρ1 F1 O1 H1 x e s1 r1 p1
  | exc c ρ1 => exact ex c ρ1 e
  | bad => exact absurd e nb
/-- a slot's value as it stands in the heap -/
@[simp] def hat : Option Sv → Option PV
  | some (.s v) => some v
  | some (.o v) => some v
  | some (.q v) => some v
  | _ => none
theorem SlotR.heap {K : PySem.W.Frag} {C : Cf} {F H : Hp} {oa : Addr → Prop} {v : V} {p : Sv} {u : PV} (sub : Same F H) (s : SlotR K C F oa H v p) (e : hat (some p) = some u) : Rep K H v u := by
  cases s with
  | s r => cases e; exact r.mono sub
  | o _ r => cases e; exact r.rep sub
  | qq g r =>
    cases e
    exact r.mono fun a o h => (g a o h).elim (fun z => z.2.1) fun z => sub _ _ z.1
  | c => cases e
  | cl => cases e
  | d => cases e
  | nk => cases e
  | kk => cases e
  | cs => cases e
@[simp] def aLateH (i : Nat) (fr : En → RE (List PV)) (ρ : En) : RE (List PV) := match ρ.at i with
  | none => .bad
  | some _ => (fr ρ).bind fun ws ρ2 => match hat (ρ2.at i) with
    | some v => .ok (v :: ws) ρ2
    | none => .bad
@[simp] def eFunB (g : List PV → FR) (fa : En → RE (List PV)) (ρ : En) : RE PV := (fa ρ).bind fun vs ρ1 => match g vs with
  | .ret v [] => if atomB v then .ok v ρ1 else .bad
  | .exc c [] => .exc c ρ1
  | _ => .bad
/-- all parameters are shared -/
def allS : List PM → Bool
  | [] => true
  | .s :: ms => allS ms
  | .o :: _ => false
  | .k :: _ => false
theorem ArgsC.all {K : PySem.W.Frag} {F H : Hp} : ∀ {ms : List PM} {xs : List V} {vs : List PV}, allS ms = true → RepA K F xs vs → vs.length = ms.length → ArgsC K F H ms xs vs []
  | [], _, _, _, .nil, _ => .nil
  | .s :: ms, _, _, h, .cons a r, l => .s a (ArgsC.all (ms := ms) h r (by simpa using l))
  | .o :: _, _, _, h, _, _ => by cases h
  | .k :: _, _, _, h, _, _ => by cases h
  | [], _, _, _, .cons _ _, l => by simp at l
  | .s :: _, _, _, _, .nil, l => by simp at l
end Fx
namespace Fx
open PySem PySem.Spec PyProof.Rows L2
/-- new objects, each a list of what holds no list -/
inductive FreshL (K : PySem.W.Frag) (H : Hp) (O : Own) (F' : Hp) (O' : Own) (H' : Hp) : List V → List PV → List Addr → Prop
  | nil : FreshL K H O F' O' H' [] [] []
  | cons {a : Addr} {p : PV} {vs : List V} {ps : List PV} {as : List Addr} : Fresh K H O F' O' H' a p → a ∉ as → FreshL K H O F' O' H' vs ps as → FreshL K H O F' O' H' (.ref a :: vs) (p :: ps) (a :: as)
def PostF (K : PySem.W.Frag) (C : Cf) (F H : Hp) (O : Own) (σ : L2.St) (Q : List V → Hp → Prop) : RE (List PV) → Prop
  | .ok vs ρ' => ∀ F' O' H' xs as, Step F H O F' H' O' → Rel K C F' O' σ H' ρ' → FreshL K H O F' O' H' xs vs as → Q xs H'
  | .exc c ρ' => ExcP K C F H O σ c ρ'
  | .bad => False
def tF (K : PySem.W.Frag) (C : Cf) (f : En → RE (List PV)) : TA := fun σ H Q => ∃ F O ρ, Rel K C F O σ H ρ ∧ PostF K C F H O σ Q (f ρ)
theorem tF.bind {K : PySem.W.Frag} {C : Cf} {F H : Hp} {O : Own} {σ : L2.St} {ρ : En} {f : En → RE (List PV)} {Q : List V → Hp → Prop} (r : Rel K C F O σ H ρ)
    (ok : ∀ v ρ1 F1 O1 H1 x as, f ρ = .ok v ρ1 → Step F H O F1 H1 O1 → Rel K C F1 O1 σ H1 ρ1 → FreshL K H O F1 O1 H1 x v as → Q x H1) (ex : ∀ c ρ1, f ρ = .exc c ρ1 → ExcP K C F H O σ c ρ1) (nb : f ρ ≠ .bad) : tF K C f σ H Q := by
  refine ⟨F, O, ρ, r, ?_⟩
  cases e : f ρ with
  | ok v ρ1 => exact fun F1 O1 H1 x as s1 r1 p1 => ok v ρ1 F1 O1 H1 x as e s1 r1 p1
  | exc c ρ1 => exact ex c ρ1 e
  | bad => exact absurd e nb
theorem FreshL.from {K : PySem.W.Frag} {F H F1 H1 F2 H2 : Hp} {O O1 O2 : Own} (s : Step F H O F1 H1 O1) : ∀ {vs : List V} {ps : List PV} {as : List Addr}, FreshL K H1 O1 F2 O2 H2 vs ps as → FreshL K H O F2 O2 H2 vs ps as
  | _, _, _, .nil => .nil
  | _, _, _, .cons f n r => .cons (f.from s) n (r.from s)
theorem FreshL.mem {K : PySem.W.Frag} {H F' H' : Hp} {O O' : Own} : ∀ {vs : List V} {ps : List PV} {as : List Addr}, FreshL K H O F' O' H' vs ps as → ∀ a ∈ as, ∃ p ∈ ps, Fresh K H O F' O' H' a p
  | _, _, _, .nil, a, h => nomatch h
  | _, _, _, .cons f n r, a, h => by
    rcases List.mem_cons.mp h with e | h
    · subst e; exact ⟨_, List.mem_cons_self, f⟩
    · obtain ⟨p, h1, h2⟩ := r.mem a h
      exact ⟨p, List.mem_cons_of_mem _ h1, h2⟩
/-- each a list of what holds no list -/
def plainLists : List PV → Bool
  | [] => true
  | .list ds :: r => noLA ds && plainLists r
  | _ :: _ => false
/-- slot i owns just these -/
def setO (O : Own) (i : Nat) (S : Addr → Prop) : Own := fun j b => (j = i ∧ S b) ∨ (j ≠ i ∧ O j b)
theorem setO_ne {O : Own} {i j : Nat} {S : Addr → Prop} (n : j ≠ i) : setO O i S j = O j := funext fun b => propext ⟨fun h => h.elim (fun h => absurd h.1 n) (·.2), fun h => .inr ⟨n, h⟩⟩
theorem setO_eq {O : Own} {i : Nat} {S : Addr → Prop} : setO O i S i = S := funext fun b => propext ⟨fun h => h.elim (·.2) fun h => absurd rfl h.1, fun h => .inl ⟨rfl, h⟩⟩
section
variable {K : PySem.W.Frag} {C : Cf} {F H F1 H1 : Hp} {O O1 : Own} {σ : L2.St} {ρ : En}
theorem Rel.putSet {i : Nat} {S : Addr → Prop} {v : V} {p : Sv} (s : Step F H O F1 H1 O1) (r : Rel K C F1 O1 σ H1 ρ) (hi : i ∉ C.ioS) (hS : ∀ a, S a → NewAt H O a ∧ F1 a = none ∧ (∀ j, ¬ O1 j a) ∧ ∃ o, H1 a = some o ∧ ∀ ps, o ≠ .tbl ps) (q : SlotR K C F1 S H1 v p) :
    Step F H O F1 H1 (setO O1 i S) ∧ Rel K C F1 (setO O1 i S) (σ.set i (some v)) H1 (ρ.set i (some p)) := by
  refine ⟨⟨s.ext, s.new, s.frm, fun j b h => ?_⟩, ⟨r.sub, by rw [List.length_set, List.length_set]; exact r.len, fun j p' h => ?_, fun j k b h1 h2 => ?_, fun j b h => ?_, fun p' hp => ?_, r.tabs, r.nt⟩⟩
  · rcases h with ⟨_, z⟩ | ⟨_, z⟩
    · exact ((hS b z).1).symm
    · exact s.own j b z
  · rcases getElem_set h with ⟨z, z2, hl⟩ | ⟨n, h⟩
    · subst z; cases z2
      exact ⟨_, List.getElem?_set_self (by rw [← r.len]; exact hl), by rw [setO_eq]; exact q⟩
    · obtain ⟨v, h1, h2⟩ := r.sl j p' h
      refine ⟨v, by rw [List.getElem?_set_ne (Ne.symm n)]; exact h1, ?_⟩
      rw [setO_ne n]; exact h2
  · rcases h1 with ⟨z1, z2⟩ | ⟨z1, z2⟩
    · rcases h2 with ⟨w1, w2⟩ | ⟨w1, w2⟩
      · rw [z1, w1]
      · exact absurd w2 ((hS b z2).2.2.1 k)
    · rcases h2 with ⟨w1, w2⟩ | ⟨w1, w2⟩
      · exact absurd z2 ((hS b w2).2.2.1 j)
      · exact r.inj j k b z2 w2
  · rcases h with ⟨_, z⟩ | ⟨_, z⟩
    · exact ⟨(hS b z).2.1, (hS b z).2.2.2⟩
    · exact r.out j b z
  · rw [setO_ne fun z => hi (by rw [← z]; exact (List.of_mem_zip (show (p'.1, p'.2) ∈ C.ioS.zip C.ioA from hp)).1)]
    exact r.io p' hp
end
theorem FreshL.rep {K : PySem.W.Frag} {H F' H' : Hp} {O O' : Own} {G : Hp} (sG : Same (noLst F') G) : ∀ {vs : List V} {ps : List PV} {as : List Addr}, FreshL K H O F' O' H' vs ps as → plainLists ps = true → (∀ a ∈ as, G a = H' a) → RepA K G vs ps
  | _, _, _, .nil, _, _ => .nil
  | _, _, _, .cons (a := a) f n r, e, hG => by
    cases f.at_ with
    | lst h1 h2 =>
      unfold plainLists at e
      rw [Bool.and_eq_true] at e
      exact .cons (.lst ((hG a List.mem_cons_self).trans h1) ((RepA.noL h2 e.1).mono sG)) (r.rep sG e.2 fun b hb => hG b (List.mem_cons_of_mem _ hb))
    | dK h1 h2 => simp [plainLists] at e
/-- x = [.., ..], each one a new list -/
@[simp] def sQLst (i : Nat) (fa : En → RE (List PV)) (ρ : En) : SR := match fa ρ with
  | .ok vs ρ1 => if vs.length ≤ 16777216 ∧ plainLists vs = true then .nx (ρ1.set i (some (.q (.list vs)))) else .bad
  | .exc c ρ1 => .exc c ρ1
  | .bad => .bad
theorem FreshL.length {K : PySem.W.Frag} {H F' H' : Hp} {O O' : Own} : ∀ {vs : List V} {ps : List PV} {as : List Addr}, FreshL K H O F' O' H' vs ps as → vs.length = ps.length
  | _, _, _, .nil => rfl
  | _, _, _, .cons _ _ r => by simp [r.length]
end Fx
namespace Fx
open PySem PySem.Spec PyProof.Rows L2
@[simp] def eFunQ (g : List PV → FR) (fa : En → RE (List PV)) (ρ : En) : RE PV := (fa ρ).bind fun vs ρ1 => if noLA vs = true then (match g vs with
  | .ret v [] => .ok v ρ1
  | .exc c [] => .exc c ρ1
  | _ => .bad) else .bad
section
variable {X : Cx} {C : Cf} {e : Expr} {es : List Expr} {fa : En → RE (List PV)} {ms : List PM} {p pos : Pos} {lev k : Nat} {ps : List Str} {x : Str} {g : List PV → FR} {i : Nat} {y : Str} {py sp : Pos} {f : En → RE PV}
/-- x = such a call -/
@[simp] def sAsgQ (i : Nat) (f : En → RE PV) (ρ : En) : SR := (f ρ).toS fun v ρ1 => .nx (ρ1.set i (some (.q v)))
end
end Fx
namespace Fx
open PySem PySem.Spec PyProof.Rows L2
section
variable {X : Cx} {C : Cf} {a b : Expr} {f2 : En → RE (PV × PV)} {pos : Pos}
@[simp] def mulT : PV → PV → Option PV
  | .tuple xs, .int k => if xs ≠ [] ∧ 1 ≤ k ∧ k ≤ 1000 ∧ xs.length ≤ 1000 then some (.tuple (List.replicate k.toNat xs).flatten) else none
  | _, _ => none
end
end Fx
namespace Fx
open PySem PySem.Spec PyProof.Rows L2
/-- arguments that end with x[k], or with x[k] and something plain -/
@[simp] def aIx1 (i : Nat) (fk : En → Option PV) (ρ : En) : RE (List PV) := match hat (ρ.at i) with
  | some v => (match fk ρ with
    | some k => (match idxV v k with | some u => .ok [u] ρ | none => .bad)
    | none => .bad)
  | none => .bad
@[simp] def aIx2 (i : Nat) (fk fv : En → Option PV) (ρ : En) : RE (List PV) := match hat (ρ.at i) with
  | some v => (match fk ρ with
    | some k => (match idxV v k with
      | some u => (match fv ρ with | some w => .ok [u, w] ρ | none => .bad)
      | none => .bad)
    | none => .bad)
  | none => .bad
section
variable {X : Cx} {C : Cf} {ek ev : Expr} {fk fv : En → Option PV} {i : Nat} {x : Str} {px ip : Pos}
/-- isinstance(x, T), len(x) -/
@[simp] def eIsiH (T : String) (i : Nat) (ρ : En) : RE PV := match hat (ρ.at i) with
  | some v => (match isiP T v with | some b => .ok (.bool b) ρ | none => .bad)
  | none => .bad
@[simp] def eLenH (i : Nat) (ρ : En) : RE PV := match hat (ρ.at i) with
  | some (.list xs) => .ok (.int xs.length) ρ
  | some (.tuple xs) => .ok (.int xs.length) ρ
  | _ => .bad
end
end Fx
namespace Fx
open PySem PySem.Spec PyProof.Rows L2
end Fx
namespace Fx
open PySem PySem.Spec PyProof.Rows L2
end Fx
namespace Fx
open PySem PySem.Spec PyProof.Rows L2
/-- the order of data -/
def leD : PV → PV → Bool := PySem.W.dataLe false id
def tupB : PV → Bool
  | .tuple (_ :: _) => true
  | _ => false
def otherB : PV → Bool
  | .none => false
  | .tuple _ => false
  | _ => true
def sortOk (ds : List PV) : Bool := (ds.all fun d => ds.all fun e => PySem.W.alike d e) && (ds.all tupB || ds.all otherB) && PyData.canLayAll0 ds && (ds.all fun d => decide (d.depth ≤ 60)) && decide (ds.length ≤ 16777216)
def sortD : List PV → Option PV
  | [.list ds] => if sortOk ds then some (.list (ds.mergeSort leD)) else none
  | _ => none
theorem sortOk_sp {ds : List PV} (h : sortOk ds = true) : PySem.W.AllAlike ds ∧ PySem.W.Sortable ds ∧ PyData.canLayAll0 ds = true ∧ (∀ d ∈ ds, d.depth ≤ 60) ∧ ds.length ≤ 16777216 := by
  unfold sortOk at h
  simp only [Bool.and_eq_true, Bool.or_eq_true, List.all_eq_true, decide_eq_true_eq] at h
  obtain ⟨⟨⟨⟨h1, h2⟩, h3⟩, h4⟩, h5⟩ := h
  refine ⟨fun d hd e he => h1 d hd e he, ?_, h3, h4, h5⟩
  rcases h2 with h2 | h2
  · refine .inl fun d hd => ?_
    have := h2 d hd
    cases d with
    | tuple xs =>
      cases xs with
      | nil => cases this
      | cons x r => exact ⟨x, r, rfl⟩
    | _ => cases this
  · refine .inr fun d hd => ?_
    have := h2 d hd
    refine ⟨fun e => ?_, fun xs e => ?_⟩
    · subst e; cases this
    · subst e; cases this
section
variable {X : Cx}
def rSortD (K : PySem.W.Frag) : List V → Hp → VK → Prop := fun vs H Q => ∃ (a : Addr) (xs : List V) (ds : List PV), vs = [V.ref a] ∧ SqL K H a xs ∧ xs.length = ds.length ∧ (∀ b ∈ xs.zip ds, Dp K H b.1 b.2) ∧ PySem.W.AllAlike ds ∧ PySem.W.Sortable ds ∧ (∀ d ∈ ds, d.depth ≤ 60) ∧ ds.length ≤ 16777216 ∧
  ∀ p : Addr, H p = none → Q (.ref p) (upd H p (.lst (((xs.zip ds).mergeSort fun b c => leD b.2 c.2).map (·.1))))
theorem each_zip : ∀ {xs : List V} {us : List Value} {ds : List PV}, Vals xs us → xs.length = ds.length → PySem.W.EachIs (fun u (b : V × PV) => RelV b.1 u ∧ b ∈ xs.zip ds) us (xs.zip ds)
  | [], _, ds, r, l => by cases r; exact .nil
  | x :: xs, _, [], r, l => by simp at l
  | x :: xs, _, d :: ds, .cons r t, l => by
    refine .cons ⟨r, by simp⟩ ?_
    have h := each_zip (ds := ds) t (by simpa using l)
    exact h.mono fun u b ⟨h1, h2⟩ => ⟨h1, by simp [h2]⟩
theorem vals_each : ∀ {us : List Value} {bs : List (V × PV)} {p : V × PV → Prop}, PySem.W.EachIs (fun u (b : V × PV) => RelV b.1 u ∧ p b) us bs → Vals (bs.map (·.1)) us
  | _, _, _, .nil => .nil
  | _, _, _, .cons r t => .cons r.1 (vals_each t)
theorem cr_sortD (hu : X.A.units + 64 < cLine) : CallR X (.builtin "sorted") (rSortD X.K) := by
  intro pins s σ H vs us Q I r h
  obtain ⟨a, xs, ds, rfl, hs, hl, hd, hal, hk, hdep, hlen, q⟩ := h
  obtain ⟨its, rv, pl, _⟩ := I.list hs
  rw [Vals.ref1 r]
  have e := each_zip rv hl
  have el : (xs.zip ds).length = ds.length := by rw [List.length_zip]; omega
  have em : (xs.zip ds).map (·.2) = ds := List.map_snd_zip (by omega)
  refine PySem.W.sorted_data (enc := fun b : V × PV => b.2) pl.isList e (e.mono fun u b ⟨h1, h2⟩ => Dp.reads I b.2 b.1 u (hd b h2) h1) (by rw [em]; exact hal) (by rw [em]; exact hk) (by rw [el, sizeLine_eq]; exact hlen) (fun b hb => ?_) fun out ho he => ?_
  · have : b.2 ∈ ds := by rw [← em]; exact List.mem_map.mpr ⟨b, hb, rfl⟩
    have := hdep _ this
    omega
  · obtain ⟨ep, he'⟩ := PyProof.Rows.sortedAll_at s.heap its out.toArray
    have hv := vals_each he
    have hle : (((xs.zip ds).mergeSort (PySem.W.dataLe false fun b : V × PV => b.2)).map (·.1)).length ≤ sizeLine := by rw [List.length_map, List.length_mergeSort, el, sizeLine_eq]; exact hlen
    exact ⟨.ref _, upd H (s.heap.objs.size + 1) (.lst (((xs.zip ds).mergeSort (PySem.W.dataLe false fun b : V × PV => b.2)).map (·.1))), I.laid (t' := s.toks) (fun _ _ => PyProof.Rows.sortedAll_old) (Nat.le_succ _) ⟨hle, out, ep, hv, he'⟩, rfl, q _ (I.hok.fresh (Nat.le_succ _))⟩
end
section
variable {X : Cx} {C : Cf} {e : Expr} {np cp : Pos}
theorem repA_zip {K : PySem.W.Frag} {F : Hp} : ∀ {xs : List V} {ds : List PV}, RepA K F xs ds → xs.length = ds.length ∧ ∀ b ∈ xs.zip ds, Rep K F b.1 b.2
  | _, _, .nil => ⟨rfl, fun b h => by simp at h⟩
  | _, _, .cons r t => by
    obtain ⟨h1, h2⟩ := repA_zip t
    refine ⟨by simp [h1], fun b hb => ?_⟩
    rw [List.zip_cons_cons] at hb
    rcases List.mem_cons.mp hb with rfl | hb
    · exact r
    · exact h2 b hb
theorem repA_unzip {K : PySem.W.Frag} {F : Hp} : ∀ {bs : List (V × PV)}, (∀ b ∈ bs, Rep K F b.1 b.2) → RepA K F (bs.map (·.1)) (bs.map (·.2))
  | [], _ => .nil
  | b :: bs, h => .cons (h b (by simp)) (repA_unzip fun c hc => h c (by simp [hc]))
theorem canLay_mem : ∀ {ds : List PV}, PyData.canLayAll0 ds = true → ∀ d ∈ ds, d.canLay0 = true
  | d :: ds, h, x, hx => by
    simp only [PyData.canLayAll0, Bool.and_eq_true] at h
    rcases List.mem_cons.mp hx with rfl | hx
    · exact h.1
    · exact canLay_mem h.2 x hx
theorem ev_sortDat {fa : En → RE (List PV)} (hu : X.A.units + 64 < cLine) (hg : Gl X "sorted") (hm : X.mg "sorted" = none) (ha : AV X C .rd [e] fa) (he : starEach [e] X.env = (false, eval e X.env) :: starEach [] X.env := by rfl) (hpl : (backTo cp (starEach [] X.env)).any (·.1) = false := by rfl) :
    EV X C .fr (.Call (.Name "sorted" np) [e] [] cp) (eCal sortD fa) := by
  refine PE.imp (pe_callB (cr_sortD hu) hg hm (by decide +kernel) ha (by decide) (by decide) he hpl) fun σ H Q ⟨F, O, ρ, r, q⟩ => ?_
  unfold eCal at q
  refine tA.bind r (fun v ρ1 F1 O1 H1 x e1 s1 r1 p1 => ?_) (fun c ρ1 e1 => ?_) fun e1 => ?_
  · rw [e1] at q
    simp only [RE.bind] at q
    unfold sortD at q
    split at q
    · rename_i u hu'
      split at hu'
      · rename_i ds
        split at hu'
        case isFalse => cases hu'
        rename_i ok
        cases hu'
        obtain ⟨hal, hk, hcl, hdep, hlen⟩ := sortOk_sp ok
        obtain ⟨z, rfl, hz⟩ := RepRA.one p1
        obtain ⟨a, vs, rfl, hl, hv⟩ := hz.list r1.sub
        obtain ⟨l1, l2⟩ := repA_zip hv
        have em : (vs.zip ds).map (·.2) = ds := List.map_snd_zip (by omega)
        have cl : ∀ b ∈ vs.zip ds, b.2.canLay0 = true := fun b hb => canLay_mem hcl _ (by rw [← em]; exact List.mem_map.mpr ⟨b, hb, rfl⟩)
        refine ⟨a, vs, ds, rfl, .of hl, l1, fun b hb => ((l2 b hb).mono r1.sub).dp (cl b hb), hal, hk, hdep, hlen, fun p n => ?_⟩
        have eq : ((vs.zip ds).mergeSort fun b c => leD b.2 c.2).map (·.2) = ds.mergeSort leD := by
          rw [List.map_mergeSort (s := leD) (fun a _ b _ => rfl), em]
        have rp := repA_unzip (K := X.K) (F := F1) (bs := (vs.zip ds).mergeSort fun b c => leD b.2 c.2) fun b hb => l2 b ((List.mergeSort_perm _ _).mem_iff.mp hb)
        rw [eq] at rp
        obtain ⟨s2, r2, f2⟩ := r1.newList n rp
        exact q F1 O1 _ _ (s1.trans s2) r2 ⟨p, rfl, f2.from s1⟩
      · cases hu'
    · exact q.elim
  · rw [e1] at q; exact q
  · rw [e1] at q; exact q.elim
end
end Fx
namespace Fx
open PySem PySem.Spec PyProof.Rows L2
def dGetT (ds : List (List Int × PV)) (k : List Int) : Option PV := (ds.find? fun x => decide (x.1 = k)).map (·.2)
section
variable {K : PySem.W.Frag} {F : Hp}
theorem RepD.get : ∀ {L : List (List Int × Addr × Value)} {ds : List (List Int × PV)} (k : List Int), RepD K F L ds → (∃ b u v d, atKey L k = some (b, u) ∧ dGetT ds k = some d ∧ RelV v u ∧ Rep K F v d) ∨ (atKey L k = none ∧ dGetT ds k = none)
  | _, _, k, .nil => .inr ⟨rfl, rfl⟩
  | _, _, k, .cons (k := k2) a b c r => by
    unfold atKey dGetT
    by_cases h : k2 = k
    · rename_i bb uu vv dd _ _
      exact .inl ⟨bb, uu, vv, dd, by simp [h], by simp [h], b, c⟩
    · have := r.get k
      unfold atKey dGetT at this
      simp only [List.find?_cons, h, decide_false]
      exact this
end
end Fx
namespace Fx
open PySem PySem.Spec PyProof.Rows L2
section
variable {X : Cx} {C : Cf} {i : Nat} {x y : Str} {py px : Pos}
/-- y = {} -/
@[simp] def sDnew0 (i : Nat) (ρ : En) : SR := .nx (ρ.set i (some (.d [])))
/-- d.get(k, v) -/
@[simp] def eDgT (i : Nat) (fk fd : En → RE PV) (ρ : En) : RE PV := match ρ.at i with
  | some (.d _) => (fk ρ).bind fun k ρ1 => (fd ρ1).bind fun d ρ2 => match kT k, ρ2.at i with
    | some kk, some (.d ds) => .ok ((dGetT ds kk).getD d) ρ2
    | _, _ => .bad
  | _ => .bad
/-- d[k] -/
@[simp] def eDxT (i : Nat) (fk : En → RE PV) (ρ : En) : RE PV := match ρ.at i with
  | some (.d _) => (fk ρ).bind fun k ρ1 => match kT k, ρ1.at i with
    | some kk, some (.d ds) => (match dGetT ds kk with | some v => .ok v ρ1 | none => .bad)
    | _, _ => .bad
  | _ => .bad
/-- sorted(d) -/
def keysD (ds : List (List Int × PV)) : List PV := ds.map fun x => .tuple (x.1.map .int)
@[simp] def eDsT (i : Nat) (ρ : En) : RE PV := match ρ.at i with
  | some (.d ds) => if sortOk (keysD ds) then .ok (.list ((keysD ds).mergeSort leD)) ρ else .bad
  | _ => .bad
end
end Fx
namespace Fx
open PySem PySem.Spec PyProof.Rows L2
end Fx
namespace Fx
open PySem PySem.Spec PyProof.Rows L2
mutual
theorem nested_of {h : Heap} : ∀ {v : Value} {d : PV} {as : List Addr}, Reads h v d as → ∀ {k : NestedKey}, keyP d = some k → NestedIs h k v
  | _, _, _, .none, k, e => nomatch e
  | _, _, _, .bool _, k, e => nomatch e
  | _, _, _, .int i t, k, e => by cases e; exact .int i t
  | _, _, _, .str _ _, k, e => nomatch e
  | _, _, _, .list _ _ _ _, k, e => nomatch e
  | _, _, _, .dict _ _ _ _ _, k, e => nomatch e
  | _, _, _, .tuple (xs := xs) g c d r, k, e => by
    unfold keyP at e
    cases hk : keyPs xs with
    | none => rw [hk] at e; cases e
    | some ks =>
      rw [hk] at e
      cases e
      exact .tup g c d (nesteds_of r hk)
theorem nesteds_of {h : Heap} : ∀ {vs : List Value} {ds : List PV} {as : List Addr}, ReadsAll h vs ds as → ∀ {ks : List NestedKey}, keyPs ds = some ks → NestedAll h ks vs
  | _, _, _, .nil, ks, e => by cases e; exact .nil
  | _, _, _, .cons (d := d) (ds := ds) r t, ks, e => by
    unfold keyPs at e
    cases hk : keyP d with
    | none => rw [hk] at e; cases e
    | some k =>
      cases hks : keyPs ds with
      | none => rw [hk, hks] at e; cases e
      | some kt =>
        rw [hk, hks] at e
        cases e
        exact .cons (nested_of r hk) (nesteds_of t hks)
end
mutual
theorem hash_of (w : World) : ∀ (p : PV) (k : NestedKey), keyP p = some k → k.hash w = hashN k
  | .int i, k, e => by cases e; rfl
  | .tuple xs, k, e => by
    unfold keyP at e
    cases hk : keyPs xs with
    | none => rw [hk] at e; cases e
    | some ks =>
      rw [hk] at e
      cases e
      unfold NestedKey.hash hashN
      rw [hashes_of w xs ks hk]
  | .none, k, e => nomatch e
  | .bool _, k, e => nomatch e
  | .str _, k, e => nomatch e
  | .list _, k, e => nomatch e
  | .dict _, k, e => nomatch e
theorem hashes_of (w : World) : ∀ (ps : List PV) (ks : List NestedKey), keyPs ps = some ks → NestedKey.hashes w ks = hashNs ks
  | [], ks, e => by cases e; rfl
  | p :: ps, ks, e => by
    unfold keyPs at e
    cases hk : keyP p with
    | none => rw [hk] at e; cases e
    | some k =>
      cases hks : keyPs ps with
      | none => rw [hk, hks] at e; cases e
      | some kt =>
        rw [hk, hks] at e
        cases e
        unfold NestedKey.hashes hashNs
        rw [hash_of w p k hk, hashes_of w ps kt hks]
end
abbrev NK (P : Program) (w : World) : HeapKind P w NestedKey := nestedKind P w
/-- the address b is known for the key k -/
def KeyAt (K : PySem.W.Frag) (H : Hp) (b : Addr) (k : NestedKey) : Prop := ∃ p, Dp K H (.ref b) p ∧ keyP p = some k ∧ k.depth ≤ 8
section
variable {X : Cx} {pins : List (Addr × Obj)} {σ : L2.St} {H : Hp} {s : Shared}
theorem isN (I : Inv X pins σ H s) {b : Addr} {k : NestedKey} (h : KeyAt X.K H b k) : (NK X.prog X.w).is s.heap k b := by
  obtain ⟨p, hd, hk, hdep⟩ := h
  obtain ⟨as, r⟩ := Dp.reads I p (.ref b) (.ref b) hd rfl
  exact ⟨nested_of r hk, hdep⟩
theorem entN_eq {P : Program} {w : World} {L : List (NestedKey × Addr × Value)} (h : ∀ x ∈ L, x.1.hash w = hashN x.1) : L.map entN = L.map (entryOfKey (NK P w)) := by
  refine List.map_congr_left fun x hx => ?_
  unfold entN entryOfKey
  rw [show (NK P w).hash x.1 = hashN x.1 from h x hx]
theorem KeyAt.hash {K : PySem.W.Frag} {b : Addr} {k : NestedKey} (h : KeyAt K H b k) (w : World) : k.hash w = hashN k := by
  obtain ⟨p, _, hk, _⟩ := h
  exact hash_of w p k hk
theorem dn0_of {P : Program} {w : World} {h : Heap} {a : Addr} {L : List (NestedKey × Addr × Value)} (d : DN0 h a L) (hh : ∀ x ∈ L, x.1.hash w = hashN x.1) (hk : ∀ x ∈ L, (NK P w).is h x.1 x.2.1) : h.DictOfH (NK P w) a L := by
  obtain ⟨o, es, ep, h1, h2, h3, h4⟩ := d.ex
  exact ⟨o, es, ep, h1, h2, h3, h4.trans (entN_eq hh), hk, d.nd⟩
theorem dn0_at (I : Inv X pins σ H s) {a : Addr} {L : List (NestedKey × Addr × Value)} (e : H a = some (DNO a L)) : DN0 s.heap a L := (I.hok a _ e).1
/-- what a look for a key needs -/
structure AtN (K : PySem.W.Frag) (H : Hp) (a b : Addr) (L : List (NestedKey × Addr × Value)) (k : NestedKey) : Prop where
  at' : H a = some (DNO a L)
  ks : ∀ x ∈ L, KeyAt K H x.2.1 x.1
  key : KeyAt K H b k
theorem AtN.dict (I : Inv X pins σ H s) {a b : Addr} {L : List (NestedKey × Addr × Value)} {k : NestedKey} (h : AtN X.K H a b L k) : s.heap.DictOfH (NK X.prog X.w) a L :=
  dn0_of (dn0_at I h.at') (fun x hx => (h.ks x hx).hash _) fun x hx => isN I (h.ks x hx)
end
end Fx
namespace Fx
open PySem PySem.Spec PyProof.Rows L2
def dHasN (ds : List (PV × PV)) (k : NestedKey) : Bool := (ds.find? fun x => decide (keyP x.1 = some k)).isSome
def dPutN (ds : List (PV × PV)) (k : NestedKey) (p v : PV) : List (PV × PV) := if dHasN ds k then ds.map (fun x => if keyP x.1 = some k then (x.1, v) else x) else ds ++ [(p, v)]
def dGetN (ds : List (PV × PV)) (k : NestedKey) : Option PV := (ds.find? fun x => decide (keyP x.1 = some k)).map (·.2)
/-- all keys are laid out and not too deep -/
def allKeys (ds : List (PV × PV)) : Bool := ds.all fun x => x.1.canLay0 && (match keyP x.1 with | some k => decide (k.depth ≤ 8) | none => false)
@[simp] def tupK : PV → Bool
  | .tuple _ => true
  | _ => false
section
variable {K : PySem.W.Frag} {F H : Hp}
theorem RepN.len : ∀ {L : List (NestedKey × Addr × Value)} {ds : List (PV × PV)}, RepN K F L ds → L.length = ds.length
  | _, _, .nil => rfl
  | _, _, .cons _ _ _ _ r => by simp [r.len]
theorem RepN.find : ∀ {L : List (NestedKey × Addr × Value)} {ds : List (PV × PV)} (k : NestedKey), RepN K F L ds → (∃ b u v d, atKey L k = some (b, u) ∧ dGetN ds k = some d ∧ dHasN ds k = true ∧ RelV v u ∧ Rep K F v d) ∨ (atKey L k = none ∧ dGetN ds k = none ∧ dHasN ds k = false)
  | _, _, k, .nil => .inr ⟨rfl, rfl, rfl⟩
  | _, _, k, .cons (k := k2) (p := p) z a b c r => by
    unfold atKey dGetN dHasN
    by_cases h : k2 = k
    · rename_i bb uu vv dd _ _
      have z2 : keyP p = some k := by rw [← h]; exact z
      exact .inl ⟨bb, uu, vv, dd, by simp [h], by simp [z2], by simp [z2], b, c⟩
    · have z2 : ¬ keyP p = some k := by rw [z]; exact fun e => h (Option.some.inj e)
      have := r.find k
      unfold atKey dGetN dHasN at this
      simp only [List.find?_cons, h, z2, decide_false]
      exact this
theorem RepN.snoc {k : NestedKey} {p : PV} {b : Addr} {u : Value} {v : V} {d : PV} (h0 : keyP p = some k) (h1 : Rep K F (.ref b) p) (h2 : RelV v u) (h3 : Rep K F v d) : ∀ {L : List (NestedKey × Addr × Value)} {ds : List (PV × PV)}, RepN K F L ds → RepN K F (L ++ [(k, b, u)]) (ds ++ [(p, d)])
  | _, _, .nil => .cons h0 h1 h2 h3 .nil
  | _, _, .cons z a b c r => .cons z a b c (r.snoc h0 h1 h2 h3)
theorem RepN.upd {k : NestedKey} {u : Value} {v : V} {d : PV} (h2 : RelV v u) (h3 : Rep K F v d) : ∀ {L : List (NestedKey × Addr × Value)} {ds : List (PV × PV)}, RepN K F L ds → RepN K F (L.map (putAt k u)) (ds.map (fun x => if keyP x.1 = some k then (x.1, d) else x))
  | _, _, .nil => .nil
  | _, _, .cons (k := k2) (p := p) z a b c r => by
    simp only [List.map_cons, putAt]
    by_cases h : k2 = k
    · have z2 : keyP p = some k := by rw [← h]; exact z
      simp only [h, z2, if_true]
      exact .cons z2 a h2 h3 (r.upd h2 h3)
    · have z2 : ¬ keyP p = some k := by rw [z]; exact fun e => h (Option.some.inj e)
      simp only [h, z2, if_false]
      exact .cons z a b c (r.upd h2 h3)
theorem RepN.put {k : NestedKey} {p : PV} {b : Addr} {u : Value} {v : V} {d : PV} (h0 : keyP p = some k) (h1 : Rep K F (.ref b) p) (h2 : RelV v u) (h3 : Rep K F v d) {L : List (NestedKey × Addr × Value)} {ds : List (PV × PV)} (r : RepN K F L ds) : RepN K F (storedH L k b u) (dPutN ds k p d) := by
  unfold storedH dPutN
  rcases r.find k with ⟨_, _, _, _, e1, _, e2, _⟩ | ⟨e1, _, e2⟩
  · rw [e1, e2]; exact r.upd h2 h3
  · rw [e1, e2]; exact r.snoc h0 h1 h2 h3
theorem RepN.keys : ∀ {L : List (NestedKey × Addr × Value)} {ds : List (PV × PV)}, RepN K F L ds → Same F H → allKeys ds = true → ∀ x ∈ L, KeyAt K H x.2.1 x.1
  | _, _, .nil, _, _, x, h => nomatch h
  | _, _, .cons (p := p) z a b c r, s, al, x, h => by
    unfold allKeys at al
    rw [List.all_cons, Bool.and_eq_true, Bool.and_eq_true, z] at al
    obtain ⟨⟨c1, c2⟩, al⟩ := al
    rcases List.mem_cons.mp h with e | h
    · subst e
      exact ⟨p, (a.mono s).dp c1, z, by simpa using c2⟩
    · exact r.keys s al x h
end
section
variable {X : Cx} {C : Cf} {a e : Expr} {fa f : En → RE PV} {i : Nat} {x y : Str} {py px pos : Pos}
/-- y = {} -/
@[simp] def sDnewN (i : Nat) (ρ : En) : SR := .nx (ρ.set i (some (.t [])))
/-- y[k] = e -/
@[simp] def sDsetN (i : Nat) (fk fv : En → RE PV) (ρ : En) : SR := (fv ρ).toS fun v ρ1 => match ρ1.at i with
  | none => .bad
  | some _ => (fk ρ1).toS fun k ρ2 => match keyP k, ρ2.at i with
    | some ks, some (.t ds) => if ds.length < 16777216 ∧ ks.depth ≤ 8 ∧ allKeys ds = true ∧ k.canLay0 = true then (match tupK k with | true => .nx (ρ2.set i (some (.t (dPutN ds ks k v)))) | false => .bad) else .bad
    | _, _ => .bad
/-- d.get(k, v) -/
@[simp] def eDgN (i : Nat) (fk fd : En → RE PV) (ρ : En) : RE PV := match ρ.at i with
  | some (.t _) => (fk ρ).bind fun k ρ1 => (fd ρ1).bind fun d ρ2 => match keyP k, ρ2.at i with
    | some kk, some (.t ds) => if kk.depth ≤ 8 ∧ allKeys ds = true ∧ k.canLay0 = true then (match tupK k with | true => .ok ((dGetN ds kk).getD d) ρ2 | false => .bad) else .bad
    | _, _ => .bad
  | _ => .bad
/-- d[k] -/
@[simp] def eDxN (i : Nat) (fk : En → RE PV) (ρ : En) : RE PV := match ρ.at i with
  | some (.t _) => (fk ρ).bind fun k ρ1 => match keyP k, ρ1.at i with
    | some kk, some (.t ds) => if kk.depth ≤ 8 ∧ allKeys ds = true ∧ k.canLay0 = true then (match tupK k, dGetN ds kk with | true, some v => .ok v ρ1 | _, _ => .bad) else .bad
    | _, _ => .bad
  | _ => .bad
end
section
variable {X : Cx} {C : Cf} {i : Nat} {y : Str} {py : Pos}
@[simp] def eDsN (i : Nat) (ρ : En) : RE PV := match ρ.at i with
  | some (.t ds) => if sortOk (ds.map (·.1)) then .ok (.list ((ds.map (·.1)).mergeSort leD)) ρ else .bad
  | _ => .bad
end
end Fx
namespace Fx
open PySem PySem.Spec PyProof.Rows L2
structure DkC (K : PySem.W.Frag) : Prop where
  ex : ∃ D : Addr, PySem.W.nsIn K mainGlobals "Desk" = some (some (.ref D)) ∧ Cls K D ∧ NoAttr K D "order" ∧ NoAttr K D "past"
def fsK (v : V) (l : Addr) : List (Str × V) := [("order", v), ("past", .ref l)]
theorem DeskAt.get {K : PySem.W.Frag} {F H : Hp} {a d l : Addr} {o : PV} {ps : List PV} (h : DeskAt K F H a d l o ps) (c : DkC K) : ∃ (D : Addr) (vo : V) (vs : List V), PySem.W.nsIn K mainGlobals "Desk" = some (some (.ref D)) ∧ Cls K D ∧ NoAttr K D "order" ∧ NoAttr K D "past" ∧
    H a = some (.ins D d (fsK vo l)) ∧ H d = some (.own a) ∧ H l = some (.lst vs) ∧ Rep K F vo o ∧ RepA K F vs ps := by
  obtain ⟨D, vo, vs, h1, h2, h3, h4, h5, h6⟩ := h.ex
  obtain ⟨D', e1, e2, e3, e4⟩ := c.ex
  rw [h1] at e1
  cases e1
  exact ⟨D, vo, vs, h1, e2, e3, e4, h2, h3, h4, h5, h6⟩
section
variable {X : Cx} {C : Cf} {i : Nat} {x : Str} {px apos pos : Pos} {e : Expr} {fe : En → RE PV}
@[simp] def eKord (i : Nat) (ρ : En) : RE PV := match ρ.at i with
  | some (.k _ o _) => .ok o ρ
  | _ => .bad
/-- self.order = e -/
@[simp] def sKord (i : Nat) (fe : En → RE PV) (ρ : En) : SR := match fe ρ with
  | .ok v ρ1 => (match ρ1.at i with | some (.k j _ ps) => .nx (ρ1.set i (some (.k j v ps))) | _ => .bad)
  | .exc c ρ1 => .exc c ρ1
  | .bad => .bad
/-- self.past.append(self.order) -/
@[simp] def sKpush (i : Nat) (ρ : En) : SR := match ρ.at i with
  | some (.k j o ps) => if ps.length < 1000000 then .nx (ρ.set i (some (.k j o (ps ++ [o])))) else .bad
  | _ => .bad
/-- self.order = self.past.pop() -/
@[simp] def sKpop (i : Nat) (ρ : En) : SR := match ρ.at i with
  | some (.k j _ ps) => (match ps[ps.length - 1]? with | some o => .nx (ρ.set i (some (.k j o ps.dropLast))) | none => .bad)
  | _ => .bad
theorem RepA.dropLast {K : PySem.W.Frag} {H : Hp} {v : List V} {ds : List PV} (h : RepA K H v ds) : RepA K H v.dropLast ds.dropLast := by
  rw [List.dropLast_eq_take, List.dropLast_eq_take, h.length]; exact h.take _
/-- self.past, looked at behind what stands on the right -/
@[simp] def pK (i : Nat) (fb : En → RE PV) (ρ : En) : RE (PV × PV) := match ρ.at i with
  | some (.k (some n) _ _) => (fb ρ).bind fun w ρ2 => match ρ2.at i with
    | some (.k (some n') _ ps) => if n = n' then .ok (.list ps, w) ρ2 else .bad
    | _ => .bad
  | _ => .bad
end
end Fx
namespace Fx
open PySem PySem.Spec PyProof.Rows L2
def iniO : PV := .tuple [.int 1, .tuple []]
section
variable {X : Cx} {C : Cf} {lev k : Nat} {p pos : Pos}
/-- x = Desk() -/
@[simp] def sDesk (i : Nat) (ρ : En) : SR := .nx (ρ.set i (some (.k none iniO [])))
/-- x, y = Desk(), Desk() -/
@[simp] def sDesk2 (i j : Nat) (ρ : En) : SR := .nx ((ρ.set i (some (.k none iniO []))).set j (some (.k none iniO [])))
end
end Fx
namespace Fx
open PySem PySem.Spec PyProof.Rows L2
inductive MX where
  | ok (ws : List PV) | exc (c : Nat) | bad
def mapX (g : List PV → FR) : List PV → MX
  | [] => .ok []
  | x :: xs => match g [x] with
    | .ret v [] => (match mapX g xs with | .ok ws => .ok (v :: ws) | r => r)
    | .exc c [] => .exc c
    | _ => .bad
@[simp] def eMapX (g : List PV → FR) (it : En → RE PV) (ρ : En) : RE PV := match it ρ with
  | .ok (.list xs) ρ1 => if xs.length < 1000000 then (match mapX g xs with | .ok ws => .ok (.list ws) ρ1 | .exc c => .exc c ρ1 | .bad => .bad) else .bad
  | .ok _ _ => .bad
  | .exc c ρ1 => .exc c ρ1
  | .bad => .bad
end Fx
namespace Fx
open PySem PySem.Spec PyProof.Rows L2
@[simp] def eOrS (fa fb : En → RE PV) (ρ : En) : RE PV := (fa ρ).bind fun v ρ1 => match v with
  | .str z => if z.length ≤ 16777216 then (if z.length = 0 then fb ρ1 else .ok (.str z) ρ1) else .bad
  | _ => .bad
end Fx
namespace Fx
open PySem PySem.Spec PyProof.Rows L2
def orb (m : Nat) : Nat → Nat → Nat → Nat
  | 0, _, acc => acc
  | f + 1, x, acc => orb m f ((x * 5 + 1) % (m + 1)) (acc ||| 1 <<< x)
theorem hop_next (m i : Nat) : ∀ k, lcgI m ((i * 5 + 1) % (m + 1)) k = lcgI m i (k + 1)
  | 0 => rfl
  | k + 1 => congrArg (fun z => (z * 5 + 1) % (m + 1)) (hop_next m i k)
theorem hop_add (m i a : Nat) : ∀ k, lcgI m (lcgI m i a) k = lcgI m i (a + k)
  | 0 => rfl
  | k + 1 => congrArg (fun z => (z * 5 + 1) % (m + 1)) (hop_add m i a k)
theorem orb_bit (m j : Nat) : ∀ f x acc, (orb m f x acc).testBit j = true → acc.testBit j = true ∨ ∃ k, k < f ∧ lcgI m x k = j
  | 0, _, _, h => .inl h
  | f + 1, x, acc, h => by
    rcases orb_bit m j f _ _ h with g | ⟨k, hk, e⟩
    · rw [Nat.testBit_or, Bool.or_eq_true] at g
      rcases g with g | g
      · exact .inl g
      · refine .inr ⟨0, Nat.succ_pos _, ?_⟩
        rw [Nat.testBit_shiftLeft, Bool.and_eq_true, decide_eq_true_eq] at g
        have g2 := g.2
        have : (1 : Nat).testBit (j - x) = true → j - x = 0 := fun z => by
          first
            | exact Nat.testBit_one_eq_true_iff_self_eq_zero.mp z
            | simpa using z
        have := this g2
        have g1 := g.1
        show x = j
        omega
    · exact .inr ⟨k + 1, Nat.succ_lt_succ hk, by rw [← hop_next]; exact e⟩
/-- the masks of tables with up to 1228 members -/
def Msk (m : Nat) : Prop := m = 7 ∨ m = 31 ∨ m = 127 ∨ m = 511 ∨ m = 2047
theorem Msk.full {m : Nat} (h : Msk m) : orb m (m + 1) 0 0 = 2 ^ (m + 1) - 1 ∧ lcgI m 0 (m + 1) = 0 ∧ m % 2 = 1 ∧ m ≤ 2047 := by
  rcases h with rfl | rfl | rfl | rfl | rfl
  · decide +kernel
  · decide +kernel
  · decide +kernel
  · decide +kernel
  · decide +kernel
theorem Msk.hit {m : Nat} (h : Msk m) {j : Nat} (hj : j ≤ m) : ∃ b, b ≤ m ∧ lcgI m 0 b = j := by
  have hb : (orb m (m + 1) 0 0).testBit j = true := by
    rw [h.full.1, Nat.testBit_two_pow_sub_one]
    exact decide_eq_true (Nat.lt_succ_of_le hj)
  rcases orb_bit m j _ _ _ hb with g | ⟨k, hk, e⟩
  · simp at g
  · exact ⟨k, Nat.le_of_lt_succ hk, e⟩
theorem Msk.again {m : Nat} (h : Msk m) (k : Nat) : lcgI m 0 (m + 1 + k) = lcgI m 0 k := by
  rw [← hop_add, h.full.2.1]
theorem Msk.meet {m : Nat} (h : Msk m) {i j : Nat} (hi : i ≤ m) (hj : j ≤ m) : ∃ k, k ≤ m ∧ lcgI m i k = j := by
  obtain ⟨a, ha, rfl⟩ := h.hit hi
  obtain ⟨b, hb, rfl⟩ := h.hit hj
  by_cases c : a ≤ b
  · exact ⟨b - a, by omega, by rw [hop_add, Nat.add_sub_cancel' c]⟩
  · refine ⟨m + 1 + b - a, by omega, ?_⟩
    rw [hop_add, show a + (m + 1 + b - a) = m + 1 + b by omega, h.again]
/-- within m + 12 runs each slot begins one -/
theorem Msk.run {m : Nat} (hm : Msk m) (h : Int) {j : Nat} (hj : j ≤ m) : ∃ n, n ≤ m + 12 ∧ runI m (SetTable.bits h) n = j := by
  obtain ⟨k, hk, e⟩ := hm.meet (runI_le m (SetTable.bits h) 12) hj
  refine ⟨12 + k, by omega, ?_⟩
  rw [runI_tail (bits_lt h), e]
theorem way_in (m : Nat) (h : Int) (k : Nat) : way m h k ≤ m := by
  have hi : SetTable.bits h % (m + 1) ≤ m := Nat.le_of_lt_succ (Nat.mod_lt _ (Nat.succ_pos _))
  have hr := runEnd_bd hi
  have q := nth_in (m := m) k (runAt m (SetTable.bits h % (m + 1)) (SetTable.bits h)) (by unfold runAt; dsimp only; omega)
  exact Nat.le_trans (Nat.le_add_right _ _) q
theorem Msk.way {m : Nat} (hm : Msk m) (h : Int) {j : Nat} (hj : j ≤ m) : ∃ k, k < 10 * SetTable.turns m ∧ L2.way m h k = j := by
  obtain ⟨n, hn, e⟩ := hm.run h hj
  obtain ⟨k, hk, e2⟩ := run_nth m (SetTable.bits h) n
  exact ⟨k, by unfold SetTable.turns; omega, by unfold L2.way; rw [e2]; exact e⟩
/-- each member's slot is found from its hash -/
structure Tab (t : SetTable) (hs : List Int) : Prop where
  ris : Ris t.place.toList
  none : t.dummies = #[]
  len : t.place.toList.length = hs.length
  msk : Msk t.mask
  find : ∀ (i : Nat) (h : Int) (j : Nat), hs[i]? = some h → t.place.toList[i]? = some j → ∃ k, way t.mask h k = j ∧ ∀ c, c < k → way t.mask h c ∈ t.place.toList
section
variable {t : SetTable} {hs : List Int}
theorem Tab.gap (T : Tab t hs) (hl : hs.length ≤ t.mask) (h : Int) : ∃ K, K < 10 * SetTable.turns t.mask ∧ way t.mask h K ∉ t.place.toList ∧ ∀ k, k < K → way t.mask h k ∈ t.place.toList := by
  obtain ⟨j, hj, hn⟩ := st_missing t.place.toList (t.mask + 1) (by rw [T.len]; omega)
  obtain ⟨k, hk, rfl⟩ := T.msk.way h (Nat.le_of_lt_succ hj)
  obtain ⟨K, h1, h2, h3⟩ := st_least (p := fun c => way t.mask h c ∉ t.place.toList) k hn
  exact ⟨K, by omega, h2, fun c hc => Classical.not_not.mp (h3 c hc)⟩
theorem Tab.add (T : Tab t hs) {h : Int} {K p : Nat} (hp : p = SetTable.below t.place (way t.mask h K)) (hK : way t.mask h K ∉ t.place.toList) (hb : ∀ k, k < K → way t.mask h k ∈ t.place.toList) :
    p ≤ hs.length ∧ Tab (t.put (way t.mask h K)).1 (hs.take p ++ h :: hs.drop p) ∧ (t.put (way t.mask h K)).1.fill = hs.length + 1 := by
  have cut := (below_cut T.ris (way t.mask h K)).1
  rw [← hp, ← Array.length_toList] at cut
  have cut' : p ≤ hs.length := T.len ▸ cut
  have pl := put_place t (way t.mask h K)
  rw [← hp] at pl
  have sz : (t.put (way t.mask h K)).1.place.toList.length = hs.length + 1 := by rw [pl, len_ins _ cut, T.len]
  have more : ∀ {x}, x ∈ t.place.toList → x ∈ (t.put (way t.mask h K)).1.place.toList := fun hx => by rw [pl]; exact mem_ins.2 (.inr hx)
  refine ⟨cut', ⟨ris_insert T.ris fun e => hK (List.mem_of_getElem? (by rw [Array.getElem?_toList]; exact e)), put_dm T.none _, by rw [sz, len_ins _ cut'], T.msk, ?_⟩, ?_⟩
  · intro i h' j' h1 h2
    rw [pl, tins_get _ cut] at h2
    rw [tins_get _ cut'] at h1
    split at h1
    · rename_i c
      rw [if_pos c] at h2
      obtain ⟨k, e, z⟩ := T.find i h' j' h1 h2
      exact ⟨k, e, fun c hc => more (z c hc)⟩
    · rename_i c
      rw [if_neg c] at h2
      split at h1
      · rename_i d
        rw [if_pos d] at h2
        cases h1; cases h2
        exact ⟨K, rfl, fun c hc => more (hb c hc)⟩
      · rename_i d
        rw [if_neg d] at h2
        obtain ⟨k, e, z⟩ := T.find (i - 1) h' j' h1 h2
        exact ⟨k, e, fun c hc => more (z c hc)⟩
  · unfold SetTable.fill
    rw [← Array.length_toList, sz, put_dm T.none]
    rfl
end
theorem Msk.spot {m : Nat} (hm : Msk m) (owner : Array (Option Nat)) (h : Int) {j : Nat} (hj : j ≤ m) (hf : L2.oAt owner j = none) :
    ∃ K, SetTable.layClean.free m owner (SetTable.turns m) (SetTable.bits h % (m + 1)) (SetTable.bits h) = some (L2.way m h K) ∧ L2.oAt owner (L2.way m h K) = none ∧ ∀ k, k < K → L2.oAt owner (L2.way m h k) ≠ none := by
  obtain ⟨n, hn, e⟩ := hm.run h hj
  have at_n : L2.way m h (off m (SetTable.bits h % (m + 1)) (SetTable.bits h) n) = j := by
    unfold L2.way
    rw [nth_off, itL_run]
    exact e
  obtain ⟨K, k1, k2, k3⟩ := st_least (p := fun k => L2.oAt owner (L2.way m h k) = none) _ (show L2.oAt owner (L2.way m h (off m (SetTable.bits h % (m + 1)) (SetTable.bits h) n)) = none by rw [at_n]; exact hf)
  refine ⟨K, free_spec m owner _ n _ _ K (by unfold SetTable.turns; omega) k1 (fun k hk => ?_) ?_, k2, k3⟩
  · have := k3 k hk
    cases z : L2.oAt owner (nth m (runAt m (SetTable.bits h % (m + 1)) (SetTable.bits h)) k).j with
    | none => exact absurd z this
    | some _ => rfl
  · show (L2.oAt owner (L2.way m h K)).isNone = true
    rw [k2]; rfl
theorem Msk.seat {m : Nat} (hm : Msk m) {done : List Int} {owner : Array (Option Nat)} (W : L2.Own m done owner) (hl : done.length ≤ m) (h : Int) :
    ∃ j, SetTable.layClean.free m owner (SetTable.turns m) (SetTable.bits h % (m + 1)) (SetTable.bits h) = some j ∧ L2.Own m (done ++ [h]) (owner.setIfInBounds j (some done.length)) := by
  obtain ⟨ps, pl, pin⟩ := W.ps
  obtain ⟨j0, a0, b0⟩ := st_missing ps (m + 1) (by omega)
  have f0 : L2.oAt owner j0 = none := Classical.byContradiction fun c => b0 (pin j0 (Nat.le_of_lt_succ a0) c)
  obtain ⟨K, e1, e2, e3⟩ := hm.spot owner h (Nat.le_of_lt_succ a0) f0
  generalize hy : L2.way m h K = y at e1 e2
  have ym : y ≤ m := hy ▸ way_in m h K
  have mine : L2.oAt (owner.setIfInBounds y (some done.length)) y = some done.length := oAt_set_self _ (by rw [W.sz]; omega)
  have stay : ∀ i, L2.oAt owner i ≠ none → L2.oAt (owner.setIfInBounds y (some done.length)) i = L2.oAt owner i := fun i hi => oAt_set_ne _ fun c => hi (c ▸ e2)
  refine ⟨y, e1, by rw [Array.size_setIfInBounds]; exact W.sz, fun j k hj e => ?_, fun k hk => ?_, ⟨y :: ps, by simp [pl], fun j hj e => ?_⟩⟩
  · by_cases c : j = y
    · subst c
      rw [mine] at e
      cases e
      exact ⟨h, K, by simp, hy, fun c hc => by rw [stay _ (e3 c hc)]; exact e3 c hc⟩
    · rw [oAt_set_ne _ c] at e
      obtain ⟨h', K', a1, a2, a3⟩ := W.at_ j k hj e
      exact ⟨h', K', by rw [List.getElem?_append_left (List.getElem?_eq_some_iff.mp a1).1]; exact a1, a2, fun c hc => by rw [stay _ (a3 c hc)]; exact a3 c hc⟩
  · rw [List.length_append, List.length_singleton] at hk
    rcases Nat.lt_or_eq_of_le (Nat.le_of_lt_succ hk) with c | rfl
    · obtain ⟨j, hj, e⟩ := W.all k c
      exact ⟨j, hj, by rw [stay j (by rw [e]; exact fun z => nomatch z)]; exact e⟩
    · exact ⟨y, ym, mine⟩
  · by_cases c : j = y
    · exact c ▸ List.mem_cons_self
    · rw [oAt_set_ne _ c] at e
      exact List.mem_cons_of_mem _ (pin j hj e)
theorem Msk.seats {m : Nat} (hm : Msk m) : ∀ (rest done : List Int) (owner : Array (Option Nat)), L2.Own m done owner → done.length + rest.length ≤ m →
    ∃ o2 n, rest.foldl (stepF m) (some (owner, done.length)) = some (o2, n) ∧ L2.Own m (done ++ rest) o2
  | [], done, owner, W, _ => ⟨owner, _, rfl, by rw [List.append_nil]; exact W⟩
  | h :: rest, done, owner, W, hl => by
    have hl' : done.length + (rest.length + 1) ≤ m := hl
    obtain ⟨j, e, W'⟩ := hm.seat W (by omega) h
    obtain ⟨o2, n, f, W2⟩ := hm.seats rest (done ++ [h]) _ W' (by rw [List.length_append, List.length_singleton]; omega)
    rw [List.append_assoc] at W2
    refine ⟨o2, n, ?_, W2⟩
    rw [List.foldl_cons, stepF_some e, ← f]
    simp
theorem Msk.clean {m : Nat} (hm : Msk m) {hs : Array Int} (hn : hs.size ≤ m) : ∃ owner, SetTable.layClean m hs = some owner ∧ L2.Own m hs.toList owner := by
  obtain ⟨o2, n, f, W⟩ := hm.seats hs.toList [] _ (L2.Own.init m) (by simpa using hn)
  refine ⟨o2, ?_, W⟩
  rw [layClean_eq]
  exact congrArg (Option.map Prod.fst) f
theorem Msk.relaid (t : SetTable) {hs : Array Int} {wanted M : Nat} (hM : Msk M) (hw : SetTable.sizeAbove wanted - 1 = M) (hn : hs.size ≤ M) :
    ∃ t' order, t.relaid hs wanted = some (t', order) ∧ order.toList.Perm (List.range hs.size) ∧ Tab t' (order.toList.map fun i => hs.getD i 0) ∧ t'.mask = M ∧ t'.led = t.led ∧ t'.plain = t.plain := by
  obtain ⟨owner, e, W⟩ := hM.clean hn
  have hr : t.relaid hs wanted = some (tabOf t M owner, ((liveOf M owner).map (·.2)).toArray) := by
    rw [relaid_eq, hw, e] <;> rfl
  have live := ris_live (fun j => owner.getD j none) (List.range (M + 1)) (by
    unfold Ris
    first | exact List.pairwise_lt_range | exact List.pairwise_lt_range _)
  have r1 : Ris ((liveOf M owner).map (·.1)) := live.1
  have back : ∀ q ∈ liveOf M owner, q.1 ≤ M ∧ L2.oAt owner q.1 = some q.2 := fun q hq => (mem_live W.sz).1 hq
  have forth : ∀ k, k < hs.size → k ∈ (liveOf M owner).map (·.2) := fun k hk => by
    obtain ⟨j, b1, b2⟩ := W.all k hk
    exact List.mem_map.mpr ⟨(j, k), (mem_live W.sz).2 ⟨b1, b2⟩, rfl⟩
  have few : (liveOf M owner).length ≤ hs.size := by
    obtain ⟨ps, p1, p2⟩ := W.ps
    have a := nat_nodup_len ((liveOf M owner).map Prod.fst) ps (List.Pairwise.imp (fun h => Nat.ne_of_lt h) r1) fun x hx => by
      obtain ⟨q, hq, rfl⟩ := List.mem_map.mp hx
      exact p2 _ (back q hq).1 (by rw [(back q hq).2]; exact fun z => nomatch z)
    rw [List.length_map, p1] at a
    exact a
  have many : hs.size ≤ (liveOf M owner).length := by
    have b := nat_nodup_len (List.range hs.size) ((liveOf M owner).map (·.2)) List.nodup_range fun k hk => forth k (List.mem_range.mp hk)
    rw [List.length_map, List.length_range] at b
    exact b
  refine ⟨_, _, hr, perm_range hs.size _ ?_ forth, ⟨r1, rfl, ?_, hM, fun i h j h1 h2 => ?_⟩, rfl, rfl, rfl⟩
  · show ((liveOf M owner).map (·.2)).length = hs.size
    rw [List.length_map]; omega
  · show ((liveOf M owner).map (·.1)).length = (((liveOf M owner).map (·.2)).map fun i => hs.getD i 0).length
    simp only [List.length_map]
  · have g1 : (((liveOf M owner).map (·.2)).map fun i => hs.getD i 0)[i]? = some h := h1
    have g2 : ((liveOf M owner).map (·.1))[i]? = some j := h2
    simp only [List.getElem?_map, Option.map_eq_some_iff] at g1 g2
    obtain ⟨q, hq, rfl⟩ := g2
    obtain ⟨k, ⟨q', hq', rfl⟩, rfl⟩ := g1
    rw [hq] at hq'
    cases hq'
    have bk := back q (List.mem_of_getElem? hq)
    obtain ⟨h0, K, a1, a2, a3⟩ := W.at_ q.1 q.2 bk.1 bk.2
    have e0 : hs.getD q.2 0 = h0 := by
      rw [Array.getD_eq_getD_getElem?, ← Array.getElem?_toList, a1] <;> rfl
    rw [e0]
    refine ⟨K, a2, fun c hc => ?_⟩
    show L2.way M h0 c ∈ (liveOf M owner).map (·.1)
    cases z : L2.oAt owner (L2.way M h0 c) with
    | none => exact absurd z (a3 c hc)
    | some k2 => exact List.mem_map.mpr ⟨(L2.way M h0 c, k2), (mem_live W.sz).2 ⟨way_in M h0 c, z⟩, rfl⟩
/-- how a table grows: at which number of members, to which mask -/
theorem Msk.grow {m n : Nat} (hm : Msk m) (h1 : n * 5 < m * 3) (h2 : m * 3 ≤ (n + 1) * 5) (h3 : n + 1 < 1229) :
    ∃ M, Msk M ∧ SetTable.sizeAbove (SetTable.grown (n + 1)) - 1 = M ∧ SetTable.sizeAbove (SetTable.grown (n + 1)) ≤ 2048 ∧ (n + 1) * 5 < M * 3 ∧ n + 1 ≤ m := by
  rcases hm with rfl | rfl | rfl | rfl | rfl
  · obtain rfl : n = 4 := by omega
    exact ⟨31, .inr (.inl rfl), by decide +kernel⟩
  · obtain rfl : n = 18 := by omega
    exact ⟨127, .inr (.inr (.inl rfl)), by decide +kernel⟩
  · obtain rfl : n = 76 := by omega
    exact ⟨511, .inr (.inr (.inr (.inl rfl))), by decide +kernel⟩
  · obtain rfl : n = 306 := by omega
    exact ⟨2047, .inr (.inr (.inr (.inr rfl))), by decide +kernel⟩
  · omega
end Fx
namespace Fx
open PySem PySem.Spec PyProof.Rows L2
/-- the way's first state -/
abbrev go0 (m : Nat) (h : Int) : SetTable.Probe := runAt m (SetTable.bits h % (m + 1)) (SetTable.bits h)
theorem nth_plain (m : Nat) : ∀ (n : Nat) (p : SetTable.Probe), p.dummy = none → (nth m p n).dummy = none
  | 0, _, h => h
  | n + 1, p, h => nth_plain m n (adv m p) (by unfold adv; split <;> exact h)
section
variable {P : Program} {w : World} {A : Around} {E : Value → Shared → Prop} {s : Shared}
/-- a set of tuples of ints, in a table of up to 2048 slots -/
structure Big (P : Program) (w : World) (h : Heap) (a : Addr) (L : List (Addr × List Int)) (es : Array (Int × Value)) (ep : Nat) (t : SetTable) : Prop where
  at_ : ∃ o, h.get? a = some o ∧ o.ExactSet ∧ o.data = .set es ep t
  mem : es.toList = rowsOf P w L
  tab : Tab t (L.map fun p => thash P w p.2)
  alone : (L.map (·.2)).Nodup
  tups : ∀ p ∈ L, IsT P w h p.2 p.1
  calm : t.plain = true
  told : w.params.followText "set-order" = true ∨ t.led = true
  half : L.length * 5 < t.mask * 3
variable {a : Addr} {L : List (Addr × List Int)} {es : Array (Int × Value)} {ep : Nat} {t : SetTable}
theorem rows_size {L : List (Addr × List Int)} {es : Array (Int × Value)} (e : es.toList = rowsOf P w L) : es.size = L.length := by
  rw [← Array.length_toList, e, rowsOf, List.length_map]
theorem Big.size (R : Big P w s.heap a L es ep t) : es.size = L.length := rows_size R.mem
theorem tab_fits {t : SetTable} {hs : List Int} (T : Tab t hs) {n : Nat} (e : n = hs.length) (h : hs.length ≤ t.mask) : t.fits n = true := by
  have z := T.len
  rw [Array.length_toList] at z
  unfold SetTable.fits SetTable.fill
  rw [T.none, Bool.and_eq_true, beq_iff_eq, decide_eq_true_eq]
  show t.place.size = n ∧ t.place.size + 0 ≤ t.mask
  omega
theorem Big.ok (R : Big P w s.heap a L es ep t) : t.fits es.size = true := by
  have h := R.half
  exact tab_fits R.tab (by rw [R.size, List.length_map]) (by rw [List.length_map]; omega)
theorem Big.few (R : Big P w s.heap a L es ep t) : L.length < 1229 := by
  have h := R.half
  have := R.tab.msk.full.2.2.2
  omega
theorem Big.row (R : Big P w s.heap a L es ep t) {i : Nat} {p : Addr × List Int} (h : L[i]? = some p) : es[i]? = some (thash P w p.2, Value.ref p.1) := by
  rw [← Array.getElem?_toList, R.mem, rowsOf, List.getElem?_map, h]; rfl
/-- the search for a tuple that isn't there -/
theorem Big.seek (R : Big P w s.heap a L es ep t) {x : Addr} {k : List Int} (hx : IsT P w s.heap k x) (hn : k ∉ L.map (·.2)) (hu : A.units < cLine) {K : Nat} (hf : K < 10 * SetTable.turns t.mask)
    (hK : way t.mask (thash P w k) K ∉ t.place.toList) (hb : ∀ c, c < K → way t.mask (thash P w k) c ∈ t.place.toList) {Q : SetFound → Shared → Prop} (q : Q (.free (way t.mask (thash P w k) K) false) s) :
    ∀ (f c : Nat) (st : Option SetTable.Probe), st.getD (t.probeStart (thash P w k)) = nth t.mask (go0 t.mask (thash P w k)) c → c ≤ K → K < c + f →
      wpAny (model P w) A (setSearchFrom a (.ref x) (thash P w k) true f st) Q E s
  | 0, c, st, _, hc, hl => absurd hl (Nat.not_lt_of_le hc)
  | f + 1, c, st, hst, hc, hl => by
    obtain ⟨o, e1, -, e2⟩ := R.at_
    have jump : ∀ i, (nth t.mask (nth t.mask (go0 t.mask (thash P w k)) c) i) = nth t.mask (go0 t.mask (thash P w k)) (c + i) := fun i => (nth_add t.mask c _ i).symm
    have spec := go_spec t R.tab.ris R.tab.none (fun i => (es[i]?.map (·.1)).getD 0) (thash P w k) (10 * SetTable.turns t.mask) (K - c) _ (nth_plain t.mask c _ rfl) (by omega)
      (fun i hi => by rw [jump]; exact hb (c + i) (by omega)) (by rw [jump, Nat.add_sub_cancel' hc]; exact hK)
    rw [← hst] at spec
    rw [setSearchFrom_succ]
    refine wpAny_bind (wpAny_setState_of e1 e2 R.ok ?_)
    have gw : ¬ t.gaveWay = true := by
      unfold SetTable.gaveWay
      rw [R.tab.msk.full.2.2.1]
      decide
    dsimp only
    refine wp_if_neg gw ?_
    try refine wpAny_bind (wpAny_pure ?_)
    rcases spec with ⟨i, m, hi, hm, -, -, e⟩ | ⟨-, e⟩
    · have e' : t.probe (fun i => (es[i]?.map (·.1)).getD 0) (thash P w k) (st.getD (t.probeStart (thash P w k))) = _ := e
      rw [e']
      rw [hst, jump] at hm
      rw [hst, jump, jump]
      dsimp only
      have lm : m < L.length := by
        have z := (List.getElem?_eq_some_iff.mp hm).1
        have z2 := R.tab.len
        rw [List.length_map] at z2
        omega
      obtain ⟨p, hp⟩ : ∃ p, L[m]? = some p := ⟨_, List.getElem?_eq_getElem lm⟩
      have pm : p ∈ L := List.mem_of_getElem? hp
      have ne : p.2 ≠ k := fun z => hn (List.mem_map.mpr ⟨p, pm, z⟩)
      have rest : wpAny (model P w) A (searchRest a (.ref x) (thash P w k) true f es t (way t.mask (thash P w k) (c + i)) m (nth t.mask (go0 t.mask (thash P w k)) (c + (i + 1)))) Q E s := by
        unfold searchRest
        rw [R.row hp]
        refine wpAny_bind (wpAny_holding (wpAny_eqBool_tuple hu (R.tups p pm) hx ?_))
        refine wpAny_bind (wpAny_setState_of e1 e2 R.ok ?_)
        dsimp only
        refine wp_if_neg (by simp [ne]) ?_
        try refine wpAny_bind (wpAny_pure ?_)
        rw [sameMem]
        simp only [if_true, slot_live R.tab.ris hm, R.row hp]
        refine wpAny_bind (wpAny_isSame_ref_self (wpAny_bind (wpAny_pure ?_)))
        simp only [if_true]
        refine wp_if_neg (by simp [ne]) ?_
        exact R.seek hx hn hu hf hK hb q f _ _ rfl (by omega) (by omega)
      by_cases hl : t.led = true
      · refine wp_if_neg (by rw [hl]; decide) ?_
        try refine wpAny_bind (wpAny_pure ?_)
        exact rest
      · refine wp_if_pos (by rw [Bool.eq_false_iff.mpr hl]; rfl) ?_
        refine wpAny_bind (seen_tup hx (fun y hy => ?_) ?_)
        · obtain ⟨d, hd, rfl⟩ := List.mem_map.mp hy
          have hd' : d ∈ es.toList := by
            have : d ∈ es ∧ d.1 = thash P w k := by simpa using hd
            exact Array.mem_toList_iff.mpr this.1
          rw [R.mem] at hd'
          obtain ⟨p2, hp2, rfl⟩ := List.mem_map.mp hd'
          exact ⟨_, _, rfl, R.tups p2 hp2⟩
        · refine wp_if_neg Bool.false_ne_true ?_
          try refine wpAny_bind (wpAny_pure ?_)
          exact rest
    · have e' : t.probe (fun i => (es[i]?.map (·.1)).getD 0) (thash P w k) (st.getD (t.probeStart (thash P w k))) = _ := e
      rw [e', hst, jump, Nat.add_sub_cancel' hc]
      exact wpAny_pure q
/-- a table laid anew -/
theorem big_relay {o : Obj} (e1 : s.heap.get? a = some o) (ex : o.ExactSet) (e2 : o.data = .set es ep t) (hm : es.toList = rowsOf P w L) (T : Tab t (L.map fun p => thash P w p.2)) (al : (L.map (·.2)).Nodup) (tu : ∀ p ∈ L, IsT P w s.heap p.2 p.1)
    (ca : t.plain = true) (to : w.params.followText "set-order" = true ∨ t.led = true) (hle : L.length ≤ t.mask) {want M : Nat} (hM : Msk M) (hw : SetTable.sizeAbove want - 1 = M) (hw2 : SetTable.sizeAbove want ≤ 2048) (ha : L.length * 5 < M * 3)
    {Q : Unit → Shared → Prop} (q : ∀ h' L' es' ep' t', Heap.SameBut a s.heap h' → Big P w h' a L' es' ep' t' → L'.Perm L → Q () { s with heap := h' }) : wpAny (model P w) A (setRelay a want) Q E s := by
  have sz := rows_size hm
  obtain ⟨t', order, r0, pm, T', em, el, epl⟩ := hM.relaid t (hs := es.map (·.1)) hw (by rw [Array.size_map, sz]; omega)
  rw [Array.size_map, sz] at pm
  obtain ⟨L2, g1, g2, g3⟩ := order_rows L es order hm pm
  rw [← g3] at T'
  have sz2 : (order.filterMap (es[·]?)).size = es.size := by rw [rows_size g1, g2.length_eq, sz]
  have lim : es.size < 1229 := by have := hM.full.2.2.2; omega
  rw [setRelay_eq]
  refine wpAny_bind (wpAny_setState_of e1 e2 (tab_fits T (by rw [sz, List.length_map]) (by rw [List.length_map]; exact hle)) ?_)
  dsimp only
  refine wp_if_neg (by rw [sizeLine_eq]; omega) ?_
  try refine wpAny_bind (wpAny_pure ?_)
  rw [r0]
  refine wpAny_bind ?_
  dsimp only
  refine wp_if_neg (by rw [sz2]; simp) ?_
  try refine wpAny_bind (wpAny_pure ?_)
  refine wpAny_pure ?_
  refine wpAny_storeSet_of e1 e2 ?_ (by rw [sz2, sizeLine_eq]; omega)
  have sb : Heap.SameBut a s.heap (s.heap.update a (Obj.putSet (order.filterMap (es[·]?)) t')) := Heap.SameBut.update ..
  exact q _ L2 _ _ t' sb ⟨⟨_, store_at e1 e2, ⟨ex.1, ex.2.1, ex.2.2⟩, rfl⟩, g1, T', (g2.map (·.2)).nodup_iff.mpr al, fun p hp => isT_same (tu p (g2.mem_iff.mp hp)) e1 e2 sb, epl ▸ ca, el ▸ to, by rw [g2.length_eq, em]; exact ha⟩ g2
/-- a tuple put in that isn't there yet -/
theorem Big.put (R : Big P w s.heap a L es ep t) {x : Addr} {k : List Int} (hx : IsT P w s.heap k x) (hn : k ∉ L.map (·.2)) (hu : A.units < cLine) (hl : L.length + 1 < 1229) {Q : Bool → Shared → Prop}
    (q : ∀ h' L' es' ep' t', Heap.SameBut a s.heap h' → Big P w h' a L' es' ep' t' → L'.Perm ((x, k) :: L) → Q true { s with heap := h' }) :
    wpAny (model P w) A (setAddHashed a (.ref x) (thash P w k)) Q E s := by
  obtain ⟨o, e1, ex, e2⟩ := R.at_
  have hh := R.half
  have sz := R.size
  obtain ⟨K, hf, hK, hb⟩ := R.tab.gap (by rw [List.length_map]; omega) (thash P w k)
  have big : K < 100000 := by
    have := R.tab.msk.full.2.2.2
    unfold SetTable.turns at hf
    omega
  unfold setAddHashed
  refine wpAny_holding ?_
  rw [show (100000 : Nat) = 99999 + 1 from rfl, setAddHashedIn_succ]
  refine wpAny_bind (wpAny_setState_of e1 e2 R.ok ?_)
  dsimp only
  refine wp_if_neg (by unfold byScan; simp [Value.scannable]) ?_
  try refine wpAny_bind (wpAny_pure ?_)
  refine wpAny_bind ?_
  unfold setSearch
  refine R.seek hx hn hu hf hK hb ?_ 100000 0 none rfl (Nat.zero_le _) (by omega)
  dsimp only
  refine wpAny_bind (wpAny_setState_of e1 e2 R.ok ?_)
  dsimp only
  obtain ⟨p, hp⟩ : ∃ p, p = SetTable.below t.place (way t.mask (thash P w k) K) := ⟨_, rfl⟩
  obtain ⟨b1, T1, b2⟩ := R.tab.add hp hK hb
  rw [List.length_map] at b1 b2
  have hput : t.put (way t.mask (thash P w k) K) = ((t.put (way t.mask (thash P w k) K)).1, p) := by rw [hp]; rfl
  have c1 : (t.put (way t.mask (thash P w k) K)).1.plain = true := R.calm
  have c2 : w.params.followText "set-order" = true ∨ (t.put (way t.mask (thash P w k) K)).1.led = true := R.told
  have c3 : (t.put (way t.mask (thash P w k) K)).1.mask = t.mask := rfl
  rw [hput]
  generalize (t.put (way t.mask (thash P w k) K)).1 = t1 at T1 b2 c1 c2 c3 ⊢
  dsimp only
  have m1 : (SetTable.insertAt es p (thash P w k, Value.ref x)).toList = rowsOf P w (L.take p ++ (x, k) :: L.drop p) := by rw [SetTable.toList_insertAt, rows_put, R.mem]
  have T2 : Tab t1 ((L.take p ++ (x, k) :: L.drop p).map fun p => thash P w p.2) := by
    rw [List.map_append, List.map_cons, List.map_take, List.map_drop]
    exact T1
  have pm := put_perm L p (x, k)
  generalize SetTable.insertAt es p (thash P w k, Value.ref x) = es1 at m1 ⊢
  generalize L.take p ++ (x, k) :: L.drop p = L1 at m1 T2 pm
  have n1 : L1.length = L.length + 1 := pm.length_eq
  have al : (L1.map (·.2)).Nodup := (pm.map (·.2)).nodup_iff.mpr (List.nodup_cons.mpr ⟨hn, R.alone⟩)
  first
    | (refine wpAny_bind ?_; refine wp_if_pos c1 ?_; refine hashBy_tup hx ?_)
    | refine wp_if_pos c1 (wpAny_bind (hashBy_tup hx ?_))
  simp only [if_true]
  refine wpAny_bind (wpAny_storeSet_of e1 e2 ?_ (by rw [rows_size m1, sizeLine_eq]; omega))
  have sb : Heap.SameBut a s.heap (s.heap.update a (Obj.putSet es1 t1)) := Heap.SameBut.update ..
  have e3 := store_at (es' := es1) (t' := t1) e1 e2
  have tu : ∀ y ∈ L1, IsT P w (s.heap.update a (Obj.putSet es1 t1)) y.2 y.1 := fun y hy => by
    rcases List.mem_cons.mp (pm.mem_iff.mp hy) with z | z
    · subst z; exact isT_same hx e1 e2 sb
    · exact isT_same (R.tups y z) e1 e2 sb
  generalize s.heap.update a (Obj.putSet es1 t1) = h1 at sb e3 tu ⊢
  by_cases full : t1.tooFull = true
  · have full' : (L.length + 1) * 5 ≥ t1.mask * 3 := by
      have z := full
      unfold SetTable.tooFull at z
      rw [decide_eq_true_eq, b2] at z
      exact z
    obtain ⟨M, g1, g2, g3, g4, g5⟩ := R.tab.msk.grow hh (by rw [← c3]; omega) hl
    first
      | (refine wpAny_bind ?_; refine wp_if_pos (by rw [full]; rfl) ?_)
      | (refine wp_if_pos (by rw [full]; rfl) ?_; refine wpAny_bind ?_)
    rw [sz]
    refine big_relay (s := { s with heap := h1 }) e3 ⟨ex.1, ex.2.1, ex.2.2⟩ rfl m1 T2 al tu c1 c2 (by rw [n1, c3]; exact g5) g1 g2 g3 (by rw [n1]; exact g4) fun h2 L2 es2 ep2 t2 sb2 B2 pm2 => ?_
    exact wpAny_pure (q h2 L2 es2 ep2 t2 (sb.trans sb2) B2 (pm2.trans pm))
  · have full' : (L.length + 1) * 5 < t1.mask * 3 := by
      have z := full
      unfold SetTable.tooFull at z
      rw [decide_eq_true_eq, b2] at z
      omega
    first
      | refine wp_if_neg (by rw [Bool.eq_false_iff.mpr full]; decide) ?_
      | (refine wpAny_bind ?_; refine wp_if_neg (by rw [Bool.eq_false_iff.mpr full]; decide) ?_; refine wpAny_pure ?_)
    exact wpAny_pure (q h1 L1 es1 _ t1 sb ⟨⟨_, e3, ⟨ex.1, ex.2.1, ex.2.2⟩, rfl⟩, m1, T2, al, tu, c1, c2, by rw [n1]; exact full'⟩ pm)
end
end Fx
namespace Fx
open PySem PySem.Spec PyProof.Rows L2
section
variable {P : Program} {w : World} {A : Around} {E : Value → Shared → Prop} {s : Shared}
theorem Big.stay {h h' : Heap} {a : Addr} {L : List (Addr × List Int)} {es : Array (Int × Value)} {ep : Nat} {t : SetTable} (R : Big P w h a L es ep t) (ha : ∀ o, h.get? a = some o → h'.get? a = some o) (ht : ∀ p ∈ L, IsT P w h' p.2 p.1) : Big P w h' a L es ep t := by
  obtain ⟨o, e, r⟩ := R.at_
  exact ⟨⟨o, ha o e, r⟩, R.mem, R.tab, R.alone, ht, R.calm, R.told, R.half⟩
theorem big_fresh {h : Heap} {a : Addr} (e : h.get? a = some (set0 w)) : Big P w h a [] #[] 0 (.fresh 0 0 (!w.params.followText "set-order")) where
  at_ := ⟨_, e, ⟨rfl, rfl, rfl⟩, rfl⟩
  mem := rfl
  tab := ⟨List.Pairwise.nil, rfl, rfl, .inl rfl, fun i h j z => by simp at z⟩
  alone := List.nodup_nil
  tups := fun p z => nomatch z
  calm := rfl
  told := by
    cases c : w.params.followText "set-order" with
    | true => exact .inl rfl
    | false => exact .inr rfl
  half := show 0 * 5 < 7 * 3 by decide
theorem big_loop {I : Addr} {fp wr : List Addr} {G : Array GenState → Array GenState → Prop} {n : Nat} {Pv : Nat → Value → Prop} {St : Nat → Shared → Prop} {R : Result → Shared → Prop} (W : WalksS P w A.in1 I fp wr G n Pv St) (S : Addr) (nf : S ∉ fp)
    (ks : List (Addr × List Int)) (hn : n = ks.length) (nd : (ks.map (·.2)).Nodup) (few : ks.length < 1229) (told : ∀ i v, Pv i v → ∃ p, ks[i]? = some p ∧ v = .ref p.1) (h0 : Heap) (hk : ∀ p ∈ ks, IsT P w h0 p.2 p.1) (S0 : h0.get? S = none) (w0 : ∀ b ∈ wr, h0.get? b = none) (hu : A.in1.units < cLine) :
    ∀ (k i : Nat) (s : Shared), n - i = k → i ≤ n → St i s → (∀ b o, h0.get? b = some o → s.heap.get? b = some o) → (∃ L es ep t, Big P w s.heap S L es ep t ∧ L.Perm (ks.take i)) →
      (∀ t L es ep tb, Moved (S :: wr) G s t → Big P w t.heap S L es ep tb → L.Perm ks → (∀ b o, h0.get? b = some o → t.heap.get? b = some o) → R (.ok (.ret .none)) t) → codeAny (model P w) A (.builtin "set.update.loop" ⟨[.ref S, .ref I], []⟩) R s := by
  have nw : S ∉ wr := fun z => nf (W.sub _ z)
  have inS : ∀ b ∈ wr, b ∈ S :: wr := fun b z => List.mem_cons_of_mem _ z
  have on : ∀ {s t : Shared}, Moved wr G s t → (∀ b o, h0.get? b = some o → s.heap.get? b = some o) → ∀ b o, h0.get? b = some o → t.heap.get? b = some o := fun m z b o e => m.heap b o (fun hb => by rw [w0 b hb] at e; cases e) (z b o e)
  intro k
  induction k with
  | zero =>
    intro i s e le st kp ⟨L, es, ep, t, hS, g⟩ fin
    obtain rfl : i = n := by omega
    refine codeAny_builtin F.entry_set_update_loop ?_
    rw [Around.under_plainId F.plain_set_update_loop _]
    refine wpAny_bind (W.done s _ _ st fun s2 m => ?_)
    have kp2 := on m kp
    rw [hn, List.take_length] at g
    exact wpAny_pure (fin s2 L es ep t (m.mono inS) (hS.stay (fun o z => m.heap S o nw z) fun p hp => isT_keep (hk p (g.mem_iff.mp hp)) kp2) g kp2)
  | succ k ih =>
    intro i s e le st kp ⟨L, es, ep, t, hS, g⟩ fin
    have lt : i < n := by omega
    refine codeAny_builtin F.entry_set_update_loop ?_
    rw [Around.under_plainId F.plain_set_update_loop _]
    refine wpAny_bind (W.item i s _ _ lt st fun v s2 hv st2 m => ?_)
    obtain ⟨p, hp, rfl⟩ := told i v hv
    have kp2 := on m kp
    have inks : ∀ q ∈ L, q ∈ ks := fun q hq => List.mem_of_mem_take (g.mem_iff.mp hq)
    have hS2 : Big P w s2.heap S L es ep t := hS.stay (fun o z => m.heap S o nw z) fun q hq => isT_keep (hk q (inks q hq)) kp2
    have hx : IsT P w s2.heap p.2 p.1 := isT_keep (hk p (List.mem_of_getElem? hp)) kp2
    have len : L.length = i := by rw [g.length_eq, List.length_take]; omega
    have new : p.2 ∉ L.map (·.2) := fun z => by
      have e1 := take_next hp
      have n1 : ((ks.take (i + 1)).map (·.2)).Nodup := nd.sublist ((List.take_sublist _ _).map _)
      rw [e1, List.map_append] at n1
      exact (List.nodup_append.mp n1).2.2 _ ((g.map (·.2)).mem_iff.mp z) _ (List.mem_singleton.mpr rfl) rfl
    show wpAny _ A.in1 (holding [Value.ref p.1] (setAdd S (.ref p.1)) >>= _) _ _ s2
    refine wpAny_bind (wpAny_holding ?_)
    unfold setAdd
    refine wpAny_holding (wpAny_bind (wpAny_pyHash_tuple hu hx ?_))
    refine Big.put (s := { s2 with toks := s2.toks + (p.2.length + 1) }) hS2 hx new hu (by omega) fun h2 L2 es2 ep2 t2 sb hS3 pm => ?_
    have g2 : L2.Perm (ks.take (i + 1)) := by
      rw [take_next hp]
      exact pm.trans ((g.cons _).trans (List.perm_append_singleton _ _).symm)
    refine wpAny_pure ⟨plainId_quiet F.plain_set_update_loop _, ih (i + 1) _ (by omega) lt (W.frame _ s2 _ _ st2 (Nat.le_add_right _ _) fun b hb o z => ?_) (fun b o z => (sb.2 b (fun y => by rw [y, S0] at z; cases z)).trans (kp2 b o z)) ⟨L2, es2, ep2, t2, hS3, g2⟩ fun s3 L3 es3 ep3 t3 m3 hS4 g3 kp3 => ?_⟩
    · rw [sb.2 b (fun y : b = S => nf (by rw [← y]; exact hb))]; exact z
    · refine fin s3 L3 es3 ep3 t3 (Moved.trans W.gtrans ((m.mono inS).then_heap (Nat.le_add_right _ _) fun b o hb z => ?_) m3) hS4 g3 kp3
      rw [sb.2 b (fun y : b = S => hb (by rw [y]; exact List.mem_cons_self))]; exact z
def BigMade (P : Program) (w : World) (s : Shared) (ks : List (Addr × List Int)) (h' : Heap) : Prop :=
  ∃ (L : List (Addr × List Int)) (es : Array (Int × Value)) (ep : Nat) (t : SetTable), Big P w h' s.heap.objs.size L es ep t ∧ L.Perm ks ∧ ∀ b o, s.heap.get? b = some o → h'.get? b = some o
set_option maxHeartbeats 6400000 in
/-- set(xs), xs a list of many tuples of ints, no two alike -/
theorem call_setBig {l : Addr} {items : Array Value} (ks : List (Addr × List Int)) {Q : Value → Shared → Prop} (hh : A.handled = none) (hl : s.heap.IsList l items) (hit : items.toList = ks.map fun p => Value.ref p.1)
    (hk : ∀ p ∈ ks, IsT P w s.heap p.2 p.1) (nd : (ks.map (·.2)).Nodup) (few : ks.length < 1229) (hu : A.units + 3 < cLine) (h : ∀ (h' : Heap) (tk : Nat), BigMade P w s ks h' → Q (.ref s.heap.objs.size) { s with heap := h', toks := tk }) :
    wpAny (model P w) A (call (.type "set") [.ref l]) Q E s := by
  have size : items.size = ks.length := by
    have e := congrArg List.length hit
    rwa [Array.length_toList, List.length_map] at e
  obtain ⟨c, tl, g1⟩ := F.called_set.mro
  have g2 := F.called_set.made
  have g3 := F.called_set.sub
  refine wpAny_call (codeAny_of_tree ?_)
  show wpAny _ _ (callAny (.type "set") _) _ _ _
  refine wpAny_pure ⟨Code.quiet_builtin _ (by decide +kernel), codeAny_builtin F.entry_type_call ?_⟩
  rw [Around.under_plain (weight_type_call_type "set" [.ref l] []) rfl]
  have g4 := F.called_set.notType
  have g5 := F.called_set.canCreate
  have g6 := F.typeCall_set_1 (.ref l)
  repeat (any_goals (first | assumption | wp_step))
  refine codeAny_mono (code_set_led1 (.ref l) (E := E) (Q₁ := fun v t => v = .ref s.heap.objs.size ∧ t = { s with heap := s.heap.push (set0 w) }) ⟨rfl, rfl⟩) fun r t hr => ?_
  match r, hr with
  | .error e, hr => exact hr
  | .ok (.ret v), hr =>
    obtain ⟨ev, et⟩ := hr
    subst ev et
    have at0 : (s.heap.push (set0 w)).get? s.heap.objs.size = some (set0 w) := Heap.get?_push_size _ rfl
    have ty0 : Shared.TypeIs { s with heap := s.heap.push (set0 w) } (.ref s.heap.objs.size) "set" := ⟨_, at0, rfl⟩
    have g7 := F.called_set.init.lookup
    have g8 := F.called_set.init.bind (.ref s.heap.objs.size)
    repeat (any_goals (first | assumption | wp_step))
    refine codeAny_mono (codeAny_call_builtin (R := wants (fun r t => r = .none ∧ ∃ h' tk, t = { s with heap := h', toks := tk } ∧ BigMade P w s ks h') E) F.called_set.init.plain F.entry_set_init (check_set_init_1 ty0 ?_)) fun r t hr => ?_
    · obtain ⟨ol, o1, o2, nl, o3⟩ := hl
      obtain ⟨oc, od, oda, osl⟩ := ol
      simp only at o2 o3
      subst o2; subst o3
      have o1' : (s.heap.push (set0 w)).get? l = some { cls := .type "list", dict := od, data := .seq items nl, slots := osl } := Heap.get?_push_of_some _ o1
      have i1 := F.sub_list_set
      have i2 := F.sub_list_frozenset
      have i3 : (Value.type "list" == Value.type "dict") = false := by decide
      have i4 : (s.heap.push (set0 w)).IsList l items := ⟨_, o1', rfl, nl, rfl⟩
      unfold Builtin.«set.__init__» noKeywords Builtin.Frozenset.updateFrom
      generalize hPI : pyIter = PI
      wp_walk
      subst hPI
      refine wpAny_pyIter_list i4 (wpAny_bind (wpAny_runValue ?_))
      have lS : l < s.heap.objs.size := Heap.lt_size o1
      have hz1 : (s.heap.push (set0 w)).objs.size = s.heap.objs.size + 1 := Heap.size_push ..
      have nI : l ≠ (s.heap.push (set0 w)).objs.size := by rw [hz1]; exact Nat.ne_of_lt (Nat.lt_succ_of_lt lS)
      have nS : s.heap.objs.size ∉ [(s.heap.push (set0 w)).objs.size, l] := by
        rw [hz1]
        intro z
        rcases List.mem_cons.mp z with e | z
        · exact absurd e (Nat.ne_of_lt (Nat.lt_succ_self _))
        · exact absurd (List.mem_singleton.mp z) (Nat.ne_of_gt lS)
      have fresh : ∀ b, s.heap.objs.size ≤ b → s.heap.get? b = none := fun b hb => Heap.get?_none_of_le hb
      have told : ∀ (i : Nat) (v : Value), items[i]? = some v → ∃ p, ks[i]? = some p ∧ v = .ref p.1 := fun i v hv => by
        have e : items.toList[i]? = some v := by rw [Array.getElem?_toList]; exact hv
        rw [hit, List.getElem?_map] at e
        cases z : ks[i]? with
        | none => rw [z] at e; cases e
        | some p => rw [z] at e; exact ⟨p, rfl, (Option.some.inj e).symm⟩
      refine big_loop ((Walks.list (by simp [hh]) _ l nI items).toS) s.heap.objs.size nS ks size nd few told s.heap hk (fresh _ (Nat.le_refl _)) (fun b hb => fresh b (by rw [List.mem_singleton.mp hb, hz1]; omega)) hu
        (items.size - 0) 0 _ (by omega) (Nat.zero_le _) ⟨⟨_, Heap.get?_push_size _ rfl, rfl, rfl⟩, i4.push _⟩ (fun b o e => Heap.get?_push_of_some _ (Heap.get?_push_of_some _ e)) ?start ?done
      case start =>
        exact ⟨[], #[], 0, _, big_fresh (Heap.get?_push_of_some _ at0), .refl _⟩
      case done =>
        intro t L es ep tb hm hS hg hkp
        obtain ⟨h', gg, dd, tk', oo⟩ := t
        have q1 : gg = s.gens := hm.gens
        have q2 : dd = s.drawn := hm.drawn
        have q3 : oo = s.os := hm.os
        subst q1; subst q2; subst q3
        show wpAny _ _ _ _ _ _
        refine wpAny_pure ?_
        show wpAny _ _ (ret Value.none) _ _ _
        exact wpAny_pure ⟨rfl, h', tk', rfl, L, es, ep, tb, hS, hg, hkp⟩
    · match r, hr with
      | .error e, hr => exact hr
      | .ok (.ret v), hr =>
        obtain ⟨ev, h', tk, et, hM⟩ := hr
        subst ev et
        repeat (any_goals (first | assumption | wp_step))
        exact h h' tk hM
      | .ok .next, hr => exact hr.elim
      | .ok .brk, hr => exact hr.elim
      | .ok .cont, hr => exact hr.elim
  | .ok .next, hr => exact hr.elim
  | .ok .brk, hr => exact hr.elim
  | .ok .cont, hr => exact hr.elim
end
end Fx
namespace Fx
open PySem PySem.Spec PyProof.Rows L2
/-- the order of rows of whole numbers -/
def rowLe (a b : List Int) : Bool := decide (a ≤ b)
theorem rowLe_trans (a b c : List Int) (h : rowLe a b = true) (g : rowLe b c = true) : rowLe a c = true :=
  decide_eq_true (List.le_trans (of_decide_eq_true h) (of_decide_eq_true g))
theorem rowLe_total (a b : List Int) : (rowLe a b || rowLe b a) = true := by
  rcases List.le_total a b with h | h
  · unfold rowLe; rw [decide_eq_true h]; rfl
  · unfold rowLe; rw [decide_eq_true h, Bool.or_true]
theorem rowLe_anti {a b : List Int} (h : rowLe a b = true) (g : rowLe b a = true) : a = b :=
  List.le_antisymm (of_decide_eq_true h) (of_decide_eq_true g)
theorem leD_tup (a b : List Int) : leD (tupP a) (tupP b) = rowLe a b := by
  show (!PySem.W.dataLt (.tuple (b.map .int)) (.tuple (a.map .int))) = decide (a ≤ b)
  rw [PySem.W.dataLt_tuple]
  show (!PySem.W.rowLt (b.map .int) (a.map .int)) = _
  rw [PySem.W.dataLt_ints]
  by_cases h : b < a
  · rw [decide_eq_true h, decide_eq_false (fun z => List.not_lt.mpr z h)]; rfl
  · rw [decide_eq_false h, decide_eq_true (List.not_lt.mp h)]; rfl
section
variable {P : Program} {w : World} {A : Around} {E : Value → Shared → Prop} {s : Shared}
theorem reads_row {h : Heap} : ∀ {k : List Int} {vs : List Value}, ItemsAre (intKind P w) k vs → ReadsAll h vs (k.map .int) []
  | _, _, .nil => .nil
  | i :: k, v :: vs, .cons h1 t => by
    obtain ⟨tk, rfl⟩ := Value.isInt_shape h1
    exact ReadsAll.cons (as := []) (bs := []) (.int i tk) (reads_row t)
theorem reads_tup {h : Heap} {k : List Int} {b : Addr} (x : IsT P w h k b) : Reads h (.ref b) (tupP k) [] := by
  obtain ⟨o, items, n, h1, h2, h3, h4⟩ := x
  exact Reads.tuple h1 h2 h3 (reads_row h4)
theorem each_refs {R : Addr × List Int → Prop} : ∀ {L : List (Addr × List Int)}, (∀ p ∈ L, R p) → PySem.W.EachIs (fun v (b : Addr × List Int) => v = Value.ref b.1 ∧ R b) (L.map fun p => Value.ref p.1) L
  | [], _ => .nil
  | p :: L, h => .cons ⟨rfl, h p List.mem_cons_self⟩ (each_refs fun q hq => h q (List.mem_cons_of_mem _ hq))
theorem refs_each {p : Addr × List Int → Prop} : ∀ {out : List Value} {L : List (Addr × List Int)}, PySem.W.EachIs (fun v (b : Addr × List Int) => v = Value.ref b.1 ∧ p b) out L → out = L.map fun p => Value.ref p.1
  | _, _, .nil => rfl
  | _, _, .cons r t => by rw [List.map_cons, ← refs_each t, r.1]
/-- a list of addresses told by another one's, each with its row -/
theorem rows_perm {L : List (Addr × List Int)} (one : ∀ q ∈ L, ∀ r ∈ L, q.1 = r.1 → q = r) (nd : L.Nodup) : ∀ vs : List Value, vs.Perm (L.map fun q => Value.ref q.1) → ∃ L1 : List (Addr × List Int), vs = L1.map (fun q => Value.ref q.1) ∧ L1.Perm L := by
  intro vs pm
  have back : ∀ us : List Value, (∀ v ∈ us, ∃ q ∈ L, v = Value.ref q.1) → ∃ L1 : List (Addr × List Int), us = L1.map (fun q => Value.ref q.1) ∧ ∀ q ∈ L1, q ∈ L := by
    intro us
    induction us with
    | nil => exact fun _ => ⟨[], rfl, fun q z => nomatch z⟩
    | cons v us ih =>
      intro hv
      obtain ⟨q, hq, rfl⟩ := hv v List.mem_cons_self
      obtain ⟨L1, rfl, h1⟩ := ih fun u hu => hv u (List.mem_cons_of_mem _ hu)
      exact ⟨q :: L1, rfl, fun r hr => (List.mem_cons.mp hr).elim (fun z => z ▸ hq) (h1 r)⟩
  obtain ⟨L1, rfl, h1⟩ := back vs fun v hv => by
    obtain ⟨q, hq, e⟩ := List.mem_map.mp (pm.mem_iff.mp hv)
    exact ⟨q, hq, e.symm⟩
  refine ⟨L1, rfl, ?_⟩
  have n0 : (L.map fun q => Value.ref q.1).Nodup := by
    refine List.pairwise_map.mpr (List.Pairwise.imp_of_mem (fun {q r} hq hr ne e => ?_) nd)
    cases q; cases r
    injection e with e
    exact ne (one _ hq _ hr e)
  have n1 : L1.Nodup := nodup_of_map (pm.nodup_iff.mpr n0)
  refine (List.perm_ext_iff_of_nodup n1 nd).mpr fun q => ⟨h1 q, fun hq => ?_⟩
  obtain ⟨r, hr, e⟩ := List.mem_map.mp (pm.mem_iff.mpr (List.mem_map.mpr ⟨q, hq, rfl⟩))
  injection e with e
  rw [← one r (h1 r hr) q hq e]
  exact hr
/-- sorted(s), s a set of many tuples -/
theorem sorted_big {a : Addr} {L : List (Addr × List Int)} {es : Array (Int × Value)} {ep : Nat} {t : SetTable} {Q : Value → Shared → Prop} (R : Big P w s.heap a L es ep t) (hh : A.handled = none) (ne : ∀ p ∈ L, p.2 ≠ []) (hu : A.units + 64 < cLine)
    (q : ∀ s' p (c : Nat) (L' : List (Addr × List Int)), (∀ b o, s.heap.get? b = some o → s'.heap.get? b = some o) → s'.gens = s.gens → s'.os = s.os → s.heap.objs.size ≤ p →
      s'.heap.get? p = some (seqObj "list" (L'.map fun q => Value.ref q.1).toArray c) → L'.Perm L → L'.Pairwise (fun q r => rowLe q.2 r.2 = true) → Q (.ref p) s') :
    wpAny (model P w) A (call (.builtin "sorted") [.ref a]) Q E s := by
  obtain ⟨o, e1, ex, e2⟩ := R.at_
  have sz := R.size
  have few := R.few
  refine Calls.call_function_entry kind_sorted plain_sorted entry_sorted (args_sorted1 _) ?_
  unfold Builtin.«sorted»
  refine wpAny_bind (m := checkCount "sorted" 1 1 _) (wpAny_pure ?_)
  refine wpAny_bind (collect_set (A := A.in1) hh ⟨o, e1, ex.1, e2⟩ R.ok (by unfold scanBound; omega) R.tab.ris R.told fun s1 vs k1 hz g1 o1 pm => ?_)
  have hes : es.toList.map (·.2) = L.map fun q => Value.ref q.1 := by rw [R.mem, rowsOf, List.map_map]; rfl
  rw [hes] at pm
  obtain ⟨L1, rfl, p1⟩ := rows_perm (fun q hq r hr e => by
    have a1 := R.tups q hq
    have a2 := R.tups r hr
    rw [e] at a1
    exact Prod.ext e (a1.inj a2)) (nodup_of_map R.alone) vs pm
  have len : L1.length < 1229 := by rw [p1.length_eq]; exact few
  refine wpAny_bind (wpAny_newList ?_ (by rw [sizeLine_eq, List.length_map]; omega))
  have at0 : (s1.heap.push (seqObj "list" (L1.map fun q => Value.ref q.1).toArray 0)).get? s1.heap.objs.size = some (seqObj "list" (L1.map fun q => Value.ref q.1).toArray 0) := Heap.get?_push_size _ rfl
  have tk : ∀ p ∈ L1, ∃ as, Reads (s1.heap.push (seqObj "list" (L1.map fun q => Value.ref q.1).toArray 0)) (.ref p.1) (tupP p.2) as ∧ s1.heap.objs.size ∉ as := fun p hp =>
    ⟨[], reads_tup (P := P) (w := w) (isT_keep (R.tups p (p1.mem_iff.mp hp)) fun b u e => Heap.get?_push_of_some _ (k1 b u e)), fun z => nomatch z⟩
  have ea := each_refs tk
  have eb := each_refs (L := L1) (R := fun _ => True) fun _ _ => trivial
  refine wpAny_bind (wpAny_holding (PySem.W.list_sort_data (s := { s1 with heap := s1.heap.push (seqObj "list" (L1.map fun q => Value.ref q.1).toArray 0) }) (enc := fun b : Addr × List Int => tupP b.2) at0 eb (ea.mono fun v b ⟨hv, as, h1, h2⟩ => ⟨as, hv ▸ h1, h2⟩) ?_ ?_ (by rw [sizeLine_eq]; omega) ?_ fun out h1 h2 => ?_))
  · refine PySem.W.AllAlike.of (enc := fun b : Addr × List Int => tupP b.2) fun b b' => ?_
    show PySem.W.alike (.tuple (b.2.map .int)) (.tuple (b'.2.map .int)) = true
    simp only [PySem.W.alike]
    exact PySem.W.alike_ints _ _
  · refine .inl fun d hd => ?_
    obtain ⟨b, hb, rfl⟩ := List.mem_map.mp hd
    have := ne b (p1.mem_iff.mp hb)
    cases hk : b.2 with
    | nil => exact absurd hk this
    | cons x r => exact ⟨.int x, r.map .int, rfl⟩
  · intro b _
    have : (tupP b.2).depth ≤ 1 := by
      show (PyData.tuple (b.2.map .int)).depth ≤ 1
      simp only [PyData.depth, PySem.W.depth_ints]
      omega
    show A.in1.units + 1 + (tupP b.2).depth < cLine
    have hu1 : A.in1.units ≤ A.units + 2 := by
      first
        | exact Nat.le_of_lt (Nat.lt_succ_self _)
        | (simp only [Around.in1]; omega)
        | (show A.units + 1 ≤ A.units + 2; omega)
        | (show A.units + 2 ≤ A.units + 2; omega)
    omega
  · obtain ⟨c, hc⟩ := sortedHeap_at (vs := L1.map fun q => Value.ref q.1) (out := out.toArray) at0
    have eo := refs_each h2
    subst eo
    have le2 : ∀ b b' : Addr × List Int, PySem.W.dataLe false (fun b : Addr × List Int => tupP b.2) b b' = rowLe b.2 b'.2 := fun b b' => leD_tup b.2 b'.2
    refine wpAny_pure ⟨_, rfl, q _ s1.heap.objs.size c _ (fun b u e => ?_) g1 o1 hz hc ((List.mergeSort_perm _ _).trans p1) ?_⟩
    · have y := k1 b u e
      have lt := Heap.lt_size y
      exact (sortedHeap_old (Nat.ne_of_lt lt) (by rw [size_push']; exact Nat.lt_succ_of_lt lt)).trans (Heap.get?_push_of_some _ y)
    · refine List.Pairwise.imp (fun {b b'} z => (le2 b b').symm.trans z) (List.pairwise_mergeSort ?_ ?_ L1)
      · intro x y z h g
        rw [le2] at h g ⊢
        exact rowLe_trans _ _ _ h g
      · intro x y
        rw [le2, le2]
        exact rowLe_total _ _
end
end Fx
namespace Fx
open PySem PySem.Spec PyProof.Rows L2
/-- the set at a, without the tuples -/
def Big0 (P : Program) (w : World) (h : Heap) (a : Addr) (L : List (Addr × List Int)) : Prop :=
  ∃ (es : Array (Int × Value)) (ep : Nat) (t : SetTable), (∃ o, h.get? a = some o ∧ o.ExactSet ∧ o.data = .set es ep t) ∧ es.toList = rowsOf P w L ∧ Tab t (L.map fun p => thash P w p.2) ∧ (L.map (·.2)).Nodup ∧ t.plain = true ∧
    (w.params.followText "set-order" = true ∨ t.led = true) ∧ L.length * 5 < t.mask * 3
def BigO (P : Program) (w : World) (a : Addr) (L : List (Addr × List Int)) : HO := .ext fun h => Big0 P w h a L
theorem Big.bare {P : Program} {w : World} {h : Heap} {a : Addr} {L : List (Addr × List Int)} {es : Array (Int × Value)} {ep : Nat} {t : SetTable} (R : Big P w h a L es ep t) : Big0 P w h a L :=
  ⟨es, ep, t, R.at_, R.mem, R.tab, R.alone, R.calm, R.told, R.half⟩
theorem Big0.dress {P : Program} {w : World} {h : Heap} {a : Addr} {L : List (Addr × List Int)} (R : Big0 P w h a L) (ht : ∀ p ∈ L, IsT P w h p.2 p.1) : ∃ es ep t, Big P w h a L es ep t := by
  obtain ⟨es, ep, t, r1, r2, r3, r4, r5, r6, r7⟩ := R
  exact ⟨es, ep, t, r1, r2, r3, r4, ht, r5, r6, r7⟩
theorem bigO_new {P : Program} {w : World} {H : Hp} {h : Heap} {a : Addr} {L : List (Addr × List Int)} (R : Big0 P w h a L) : ObjOk P w H h a (BigO P w a L) := by
  have ⟨es, ep, t, ⟨o, e, _⟩, _⟩ := R
  refine ⟨R, ⟨o, e⟩, fun h1 h2 p k => ?_⟩
  have ⟨es', ep', t', ⟨o', e', r'⟩, q'⟩ := (p : Big0 P w h1 a L)
  exact ⟨es', ep', t', ⟨o', k o' e', r'⟩, q'⟩
section
variable {X : Cx}
def rSetB (K : PySem.W.Frag) (P : Program) (w : World) : List V → Hp → VK → Prop := fun xs H Q => ∃ (l : Addr) (ks : List (Addr × List Int)), xs = [V.ref l] ∧ SqL K H l (ks.map fun p => V.ref p.1) ∧ (∀ p ∈ ks, SqT K H p.1 (p.2.map V.int)) ∧ (ks.map (·.2)).Nodup ∧ ks.length < 1229 ∧
  ∀ a L, H a = none → L.Perm ks → Q (.ref a) (upd H a (BigO P w a L))
theorem cr_setB (hc : X.calm = true) (hu : X.A.units + 64 < cLine) : CallR X (.type "set") (rSetB X.K X.prog X.w) := by
  intro pins s σ H xs us Q I r ⟨l, ks, ex, hl, hk, nd, few, q⟩
  subst ex
  rw [Vals.ref1 r]
  obtain ⟨its, rv, pl, _⟩ := I.list hl
  refine call_setBig (P := X.prog) (w := X.w) ks (I.ok.hd hc) pl.isList (by simpa using refs_of_vals rv) (fun p hp => I.isT (hk p hp)) nd few (by omega) fun h' tk ⟨L, es, ep, t, R, pm, k⟩ => ?_
  exact ⟨.ref s.heap.objs.size, upd H s.heap.objs.size (BigO X.prog X.w s.heap.objs.size L), I.laid (t' := tk) k (Nat.le_refl _) (bigO_new R.bare), rfl, q _ L (I.hok.fresh (Nat.le_refl _)) pm⟩
def rSortB (K : PySem.W.Frag) (P : Program) (w : World) : List V → Hp → VK → Prop := fun vs H Q => ∃ (a : Addr) (L : List (Addr × List Int)), vs = [V.ref a] ∧ H a = some (BigO P w a L) ∧ (∀ p ∈ L, SqT K H p.1 (p.2.map V.int)) ∧ (∀ p ∈ L, p.2 ≠ []) ∧ L.length < 1229 ∧
  ∀ (L' : List (Addr × List Int)) (p : Addr), L'.Perm L → L'.Pairwise (fun q r => rowLe q.2 r.2 = true) → H p = none → Q (.ref p) (upd H p (.lst (L'.map fun q => V.ref q.1)))
theorem cr_sortB (hc : X.calm = true) (hu : X.A.units + 64 < cLine) : CallR X (.builtin "sorted") (rSortB X.K X.prog X.w) := by
  intro pins s σ H vs us Q I r ⟨a, L, ex, ha, hk, ne, few, q⟩
  subst ex
  have R0 : Big0 X.prog X.w s.heap a L := (I.hok a _ ha).1
  obtain ⟨es, ep, t, R⟩ := R0.dress fun p hp => I.isT (hk p hp)
  rw [Vals.ref1 r]
  refine sorted_big R (I.ok.hd hc) ne hu fun s' p c L' k g o hp hg pm pw => ?_
  have lim : (L'.map fun q => V.ref q.1).length ≤ sizeLine := by rw [List.length_map, sizeLine_eq, pm.length_eq]; omega
  have new : H p = none := I.hok.fresh hp
  have hv := vals_of_refs L'
  have J : Inv X pins σ (upd H p (.lst (L'.map fun q => V.ref q.1))) { s with heap := s'.heap, gens := s'.gens, drawn := s'.drawn, toks := s'.toks } :=
    I.call (ch := []) (Un.laid k hp new) (I.hok.laid k hp ⟨lim, _, c, hv, hg⟩) (by rw [g]; exact I.bare) (fun _ z => nomatch z)
  have e : s' = { s with heap := s'.heap, gens := s'.gens, drawn := s'.drawn, toks := s'.toks } := by
    cases s'; cases s; cases o; rfl
  rw [e]
  exact ⟨.ref p, _, J, rfl, q L' p pm pw new⟩
end
/-- the rows of which sorted(set(xs)) may be asked -/
def manyRows (l : List (List Int)) : Prop := l.Nodup ∧ l.length < 1229 ∧ ∀ n ∈ l, n ≠ []
instance (l : List (List Int)) : Decidable (manyRows l) := inferInstanceAs (Decidable (_ ∧ _ ∧ _))
def sortSetB : PV → Option PV
  | .list xs => (rowsP xs).bind fun l => if manyRows l then some (.list ((l.mergeSort rowLe).map tupP)) else none
  | _ => none
@[simp] def eSortSetB (fa : En → RE (List PV)) (ρ : En) : RE PV := (fa ρ).bind fun vs ρ1 => match vs with
  | [v] => (match sortSetB v with | some u => .ok u ρ1 | none => .bad)
  | _ => .bad
section
variable {X : Cx} {C : Cf} {e : Expr} {np cp np2 cp2 : Pos}
theorem ev_sortSetB {fa : En → RE (List PV)} (hc : X.calm = true) (hu : X.A.units + 64 < cLine) (hg : Gl X "sorted") (hm : X.mg "sorted" = none) (hg2 : Gl X "set") (hm2 : X.mg "set" = none) (ha : AV X C .rd [e] fa)
    (he : starEach [e] X.env = (false, eval e X.env) :: starEach [] X.env := by rfl) (hpl : (backTo cp2 (starEach [] X.env)).any (·.1) = false := by rfl)
    (he2 : starEach [.Call (.Name "set" np2) [e] [] cp2] X.env = (false, eval (.Call (.Name "set" np2) [e] [] cp2) X.env) :: starEach [] X.env := by rfl) (hpl2 : (backTo cp (starEach [] X.env)).any (·.1) = false := by rfl) :
    EV X C .fr (.Call (.Name "sorted" np) [.Call (.Name "set" np2) [e] [] cp2] [] cp) (eSortSetB fa) := by
  refine PE.imp (pe_callB (cr_sortB hc hu) hg hm (by decide +kernel) (pa_cons (pe_callTy (cr_setB hc hu) hg2 hm2 (by decide +kernel) ha (by decide) (by decide) he hpl) pa_nil he2) (by decide) (by decide) he2 hpl2) fun σ H Q ⟨F, O, ρ, r, q⟩ => ?_
  unfold eSortSetB at q
  refine tA.bind r (fun v ρ1 F1 O1 H1 x e1 s1 r1 p1 => ?_) (fun c ρ1 e1 => ?_) fun e1 => ?_
  · rw [e1] at q
    simp only [RE.bind] at q
    split at q
    · rename_i v0
      obtain ⟨z, rfl, hz⟩ := RepRA.one p1
      cases hv : sortSetB v0 with
      | none => rw [hv] at q; exact q.elim
      | some u =>
        rw [hv] at q
        unfold sortSetB at hv
        split at hv
        · rename_i xs
          obtain ⟨a, vs, rfl, hl, hvs⟩ := hz.list r1.sub
          cases hr : rowsP xs with
          | none => rw [hr] at hv; cases hv
          | some l =>
            rw [hr] at hv
            simp only [Option.bind_some] at hv
            split at hv
            · rename_i hok
              cases hv
              obtain ⟨ps, e3, e4, e5⟩ := rows_rep hvs hr
              subst e3 e4
              obtain ⟨nd, few, ne⟩ := hok
              rw [List.length_map] at few
              refine ⟨a, ps, rfl, .of hl, fun p hp => same_sqT r1.sub (e5 p hp).sq, nd, few, fun b L nb pm => ?_⟩
              obtain ⟨r2, s2⟩ := r1.alloc (o := BigO X.prog X.w b L) nb
              refine ⟨b, L, rfl, upd_same, fun p hp => same_sqT r2.sub (e5 p (pm.mem_iff.mp hp)).sq, fun p hp => ne p.2 (List.mem_map.mpr ⟨p, pm.mem_iff.mp hp, rfl⟩), by rw [pm.length_eq]; exact few, fun L' p pm' pw n => ?_⟩
              have both : L'.Perm ps := pm'.trans pm
              have e6 : L'.map (·.2) = (ps.map (·.2)).mergeSort rowLe :=
                List.Perm.eq_of_pairwise (le := fun a b => rowLe a b = true) (fun a b _ _ h g => rowLe_anti h g) (List.pairwise_map.mpr pw) (List.pairwise_mergeSort rowLe_trans rowLe_total _) ((both.map (·.2)).trans (List.mergeSort_perm _ _).symm)
              obtain ⟨s3, r3, f3⟩ := r2.newList n (repA_rows (K := X.K) (F := F1) fun p hp => e5 p (both.mem_iff.mp hp))
              rw [e6] at f3
              exact q F1 O1 _ _ ((s1.trans s2).trans s3) r3 ⟨p, rfl, f3.from (s1.trans s2)⟩
            · cases hv
        · cases hv
    · exact q.elim
  · rw [e1] at q; exact q
  · rw [e1] at q; exact q.elim
end
theorem sortD_rows (l : List (List Int)) (h1 : ∀ n ∈ l, n ≠ []) (h2 : l.length ≤ 16777216) : sortD [.list (l.map tupP)] = some (.list ((l.mergeSort rowLe).map tupP)) := by
  have ok : sortOk (l.map tupP) = true := by
    unfold sortOk
    simp only [Bool.and_eq_true, Bool.or_eq_true, List.all_eq_true, decide_eq_true_eq]
    refine ⟨⟨⟨⟨?_, .inl ?_⟩, ?_⟩, ?_⟩, by rw [List.length_map]; exact h2⟩
    · intro d hd e he
      obtain ⟨a, _, rfl⟩ := List.mem_map.mp hd
      obtain ⟨b, _, rfl⟩ := List.mem_map.mp he
      show PySem.W.alike (.tuple (a.map .int)) (.tuple (b.map .int)) = true
      simp only [PySem.W.alike]
      exact PySem.W.alike_ints _ _
    · intro d hd
      obtain ⟨a, ha, rfl⟩ := List.mem_map.mp hd
      cases a with
      | nil => exact absurd rfl (h1 _ ha)
      | cons x r => rfl
    · have laidI : ∀ k : List Int, PyData.canLayAll0 (k.map .int) = true := by
        intro k
        induction k with
        | nil => rfl
        | cons x r ih => simp only [List.map_cons, PyData.canLayAll0, PyData.canLay0, ih, Bool.and_self]
      clear h1 h2
      induction l with
      | nil => rfl
      | cons a r ih =>
        show PyData.canLayAll0 (.tuple (a.map .int) :: r.map tupP) = true
        simp only [PyData.canLayAll0, PyData.canLay0, laidI, ih, Bool.and_self]
    · intro d hd
      obtain ⟨a, _, rfl⟩ := List.mem_map.mp hd
      show (PyData.tuple (a.map .int)).depth ≤ 60
      simp only [PyData.depth, PySem.W.depth_ints]
      omega
  unfold sortD
  simp only [ok, if_true, Option.some.injEq]
  have : (l.map tupP).mergeSort leD = (l.mergeSort rowLe).map tupP := (List.map_mergeSort (r := rowLe) (s := leD) (f := tupP) (fun a _ b _ => (leD_tup a b).symm)).symm
  rw [this]
theorem rising_self {l : List (List Int)} (h : l.Pairwise (fun a b => rowLe a b = true)) : l.mergeSort rowLe = l := List.mergeSort_of_pairwise h
end Fx
namespace Fn
open PySem PySem.Spec PyProof.Rows L2 Fx
def s_Lright6_c0 : En → RE PV :=
  (eLC (.n 5) [5] (iSeq (eVar 3)) (bOr (bNot (bVal (eFun f_is_row [] (aCons (eVar 1) (aCons (eVar 5) aNil))))) (bCmp neP (pE (eFun f_span_of [] (aCons (eVar 1) (aCons (eVar 5) aNil))) (eVar 2)))) (eVar 5))
def s_Lright6_b1 : En → SR :=
  (sIf (bCmp ltP' (pE (eFun f_span_of [] (aCons (eVar 1) (aCons (eFun f_Lsome_row [0] (aIo 0 (aCons (eVar 1) aNil))) aNil))) (eVar 2))) (sRet (eC (.bool false))) sNil)
def s_Lright6_l2 : En → SR :=
  (sFor (.n 6) (iR1 (aCons (eC (.int 4)) aNil)) (sW [6] s_Lright6_b1))
def s_Lright6_c3 : En → RE PV :=
  (eLC (.n 5) [5] (iSeq (eVar 3)) bYes (eRevT (eVar 5)))
def s_Lright6 : En → SR :=
  (sSeq (sTup [2, 3, 4] (eTup (aCons (eFun f_least_span [] (aCons (eVar 1) aNil)) (aCons (eFun f_best_rows [] (aCons (eVar 1) aNil)) (aCons (eFun f_spans [] (aCons (eVar 1) aNil)) aNil)))))
    (sSeq (sIf (bOr (bCmp neP (pE (eVar 3) (eSortSetB (aCons (eVar 3) aNil)))) (bOr (bCmp neP (pE (eFun f_first_best [] (aCons (eVar 1) aNil)) (eOp idxV (pE (eVar 3) (eC (.int 0)))))) (bCmp neP (pE (eCal lenV (aCons (eVar 3) aNil)) (eOp idxV (pE (eVar 4) (eVar 2))))))) (sRet (eC (.bool false))) sNil)
    (sSeq (sIf (bCmp neP (pE s_Lright6_c0 (eLst aNil))) (sRet (eC (.bool false))) sNil)
    (sSeq (sIf (bOr (bCmp neP (pE (eCal sumV (aCons (eVar 4) aNil)) (eFun f_rows_many [] (aCons (eVar 1) aNil)))) (bOr (bCmp neP (pE (eSl sliceV (eVar 4) oNo (oAt (eVar 2))) (eOp mulL (pE (eLst (aCons (eC (.int 0)) aNil)) (eVar 2))))) (bCmp eqP (pE (eOp idxV (pE (eVar 4) (eNeg (eC (.int 1))))) (eC (.int 0)))))) (sRet (eC (.bool false))) sNil)
    (sSeq s_Lright6_l2
    (sSeq (sAsg 7 (eFun f_turned [] (aCons (eVar 1) aNil)))
    (sSeq (sIf (bOr (bCmp neP (pE (eFun f_best_rows [] (aCons (eVar 7) aNil)) (eCal sortD (aCons s_Lright6_c3 aNil)))) (bCmp neP (pE (eFun f_least_span [] (aCons (eVar 7) aNil)) (eVar 2)))) (sRet (eC (.bool false))) sNil)
    (sRet (eAnd (eCmp eqP (pE (eCmp eqP (pE (eFun f_loose_pairs [] (aCons (eVar 1) aNil)) (eLst aNil))) (eCmp eqP (pE (eVar 2) (eC (.int 0)))))) (eCmp eqP (pE (eCmp isP (pE (eFun f_farthest [] (aCons (eVar 1) (aCons (eOp idxV (pE (eVar 3) (eC (.int 0)))) aNil))) (eC (.none)))) (eCmp eqP (pE (eVar 2) (eC (.int 0)))))))))))))))
def f_Lright6 : List PV → FR := runF' .sh 8 [.o, .s] s_Lright6
theorem f_Lright6_eq (x0 x1 : PV) : f_Lright6 [x0, x1] = finF .sh [0] (s_Lright6 [some (.o x0), some (.s x1), none, none, none, none, none, none]) := runF_fin _ _ _ s_Lright6 _
end Fn
namespace K07
open PySem PySem.Spec PyProof.Rows L2 Fx Fn
def top (i : Nat) : Stmt := PySem.Challenge.pw_nearorders_k07_whole_nearest_rows.main.body.getD i (.Pass ⟨0, 0, 0, 0⟩)
/-- the built-in names that the text leaves alone -/
structure BN (mg : Str → Option Value) : Prop where
  n_abs : mg "abs" = none
  n_all : mg "all" = none
  n_any : mg "any" = none
  n_bool : mg "bool" = none
  n_dict : mg "dict" = none
  n_int : mg "int" = none
  n_isinstance : mg "isinstance" = none
  n_len : mg "len" = none
  n_list : mg "list" = none
  n_max : mg "max" = none
  n_min : mg "min" = none
  n_range : mg "range" = none
  n_set : mg "set" = none
  n_sorted : mg "sorted" = none
  n_sum : mg "sum" = none
  n_tuple : mg "tuple" = none
def n_is_whole : List Str := ["thing"]
theorem sc_is_whole : FnScope n_is_whole ["thing"] (defScope (top 9)) := ⟨rfl, rfl, rfl, by decide +kernel, rfl, by decide +kernel, by decide +kernel⟩
theorem ok_is_whole {P : Program} {w : World} {K : PySem.W.Frag} {mg : Str → Option Value} {base : Heap} {T : List (Addr × Str)} {xc : Nat → Value} (A : At K mg "is_whole" (top 9)) (hB : BN mg) : Def P w K mg base T xc "is_whole" (1) ["thing"] [.s] .sh f_is_whole :=
  def_at (k := 0) A sc_is_whole rfl (by decide) (fun _ _ _ _ _ _ us hl => match us, hl with | [_], _ => rfl) fun f cdv A outer s H E I hr =>
    (sv_one (sv_ret (ev_and (ev_isi rfl hB.n_isinstance (ev_sr (ev_var (pv 0))) rfl hB.n_int rfl) (ev_one (ev_not (ev_isi rfl hB.n_isinstance (ev_sr (ev_var (pv 0))) rfl hB.n_bool rfl))))))
def n_is_thing : List Str := ["many", "thing"]
theorem sc_is_thing : FnScope n_is_thing ["many", "thing"] (defScope (top 10)) := ⟨rfl, rfl, rfl, by decide +kernel, rfl, by decide +kernel, by decide +kernel⟩
theorem ok_is_thing {P : Program} {w : World} {K : PySem.W.Frag} {mg : Str → Option Value} {base : Heap} {T : List (Addr × Str)} {xc : Nat → Value} (A : At K mg "is_thing" (top 10)) (hB : BN mg) (D_is_whole : Def P w K mg base T xc "is_whole" 1 ["thing"] [.s] .sh f_is_whole) : Def P w K mg base T xc "is_thing" (2) ["many", "thing"] [.s, .s] .sh f_is_thing :=
  def_at (k := 1) A sc_is_thing rfl (by decide) (fun _ _ _ _ _ _ us hl => match us, hl with | [_, _], _ => rfl) fun f cdv A outer s H E I hr =>
    (sv_one (sv_ret (ev_and (ev_callD D_is_whole hr (by omega) rfl (takes_of rfl rfl rfl rfl) (by decide) (mv_s (ev_var (pv 1)) mv_nil)) (ev_one (ev_chn ob_le ob_lt ev_int (ev_var (pv 1)) (ev_var (pv 0)))))))
def n_is_number : List Str := ["thing"]
theorem sc_is_number : FnScope n_is_number ["thing"] (defScope (top 11)) := ⟨rfl, rfl, rfl, by decide +kernel, rfl, by decide +kernel, by decide +kernel⟩
theorem ok_is_number {P : Program} {w : World} {K : PySem.W.Frag} {mg : Str → Option Value} {base : Heap} {T : List (Addr × Str)} {xc : Nat → Value} (A : At K mg "is_number" (top 11)) (hB : BN mg) (D_is_whole : Def P w K mg base T xc "is_whole" 1 ["thing"] [.s] .sh f_is_whole) (G_MOST : GI mg "MOST" 6) : Def P w K mg base T xc "is_number" (2) ["thing"] [.s] .sh f_is_number :=
  def_at (k := 1) A sc_is_number rfl (by decide) (fun _ _ _ _ _ _ us hl => match us, hl with | [_], _ => rfl) fun f cdv A outer s H E I hr =>
    (sv_one (sv_ret (ev_and (ev_callD D_is_whole hr (by omega) rfl (takes_of rfl rfl rfl rfl) (by decide) (mv_s (ev_var (pv 0)) mv_nil)) (ev_one (ev_chn ob_le ob_le ev_int (ev_var (pv 0)) (GG_MOST G_MOST rfl))))))
def n_is_pair : List Str := ["many", "thing", "one"]
theorem sc_is_pair : FnScope n_is_pair ["many", "thing"] (defScope (top 12)) := ⟨rfl, rfl, rfl, by decide +kernel, rfl, by decide +kernel, by decide +kernel⟩
theorem ok_is_pair {P : Program} {w : World} {K : PySem.W.Frag} {mg : Str → Option Value} {base : Heap} {T : List (Addr × Str)} {xc : Nat → Value} (A : At K mg "is_pair" (top 12)) (hB : BN mg) (D_is_thing : Def P w K mg base T xc "is_thing" 2 ["many", "thing"] [.s, .s] .sh f_is_thing) : Def P w K mg base T xc "is_pair" (3) ["many", "thing"] [.s, .s] .sh f_is_pair :=
  def_at (k := 2) A sc_is_pair rfl (by decide) (fun _ _ _ _ _ _ us hl => match us, hl with | [_, _], _ => rfl) fun f cdv A outer s H E I hr =>
    (sv_one (sv_ret (ev_and (ev_isi rfl hB.n_isinstance (ev_sr (ev_var (pv 1))) rfl hB.n_tuple rfl) (ev_and (ev_cmp (ob_eq hr.units) (e2_e (by decide) (ev_len rfl hB.n_len (avr_cons (by decide) (ev_var (pv 1)) av_nil)) ev_int) rfl) (ev_one (ev_all rfl rfl hB.n_all (avr_cons (by decide) (ev_lc [2] rfl rfl sc_is_pair.nd (iv_seq (ev_var (pv 1))) (blkOk_by (own := [("one", 2)]) (N := n_is_pair) (sc := defScope (top 12)) (by decide +kernel)) (by decide) (nios (l := []) rfl rfl) (fun _ _ _ _ _ => (gv_n sc_is_pair.nd rfl (by first | exact .inl rfl | exact .inr rfl))) (fun _ _ _ _ _ => nv_nil) (fun _ _ _ _ _ => (ev_callD D_is_thing hr (by omega) rfl LamX.takes0 (by decide) (mv_s (ev_var (pv 0)) (mv_s (ev_var (pv 2)) mv_nil))))) av_nil)))))))
def n_closed : List Str := ["many", "pairs", "found", "pair", "middle", "a", "b"]
theorem sc_closed : FnScope n_closed ["many", "pairs"] (defScope (top 13)) := ⟨rfl, rfl, rfl, by decide +kernel, rfl, by decide +kernel, by decide +kernel⟩
theorem ok_closed {P : Program} {w : World} {K : PySem.W.Frag} {mg : Str → Option Value} {base : Heap} {T : List (Addr × Str)} {xc : Nat → Value} (A : At K mg "closed" (top 13)) (hB : BN mg) : Def P w K mg base T xc "closed" (1) ["many", "pairs"] [.s, .s] .fr f_closed :=
  def_at (k := 0) A sc_closed rfl (by decide) (fun _ _ _ _ _ _ us hl => match us, hl with | [_, _], _ => rfl) fun f cdv A outer s H E I hr =>
    (sv_cons (sv_dnew (u3 hr) rfl rfl hB.n_dict (avr_cons (by decide) (ev_lc [3] rfl rfl sc_closed.nd (iv_seq (ev_var (pv 1))) (blkOk_by (own := [("pair", 3)]) (N := n_closed) (sc := defScope (top 13)) (by decide +kernel)) (by decide) (nios (l := []) rfl rfl) (fun _ _ _ _ _ => (gv_n sc_closed.nd rfl (by first | exact .inl rfl | exact .inr rfl))) (fun _ _ _ _ _ => nv_nil) (fun _ _ _ _ _ => (ev_tup (av_cons (ev_var (pv 3)) (av_cons ev_bl av_nil))))) av_nil) (nio (l := []) rfl rfl) sc_closed.nd rfl (by first | exact .inl rfl | exact .inr rfl))
    (sv_cons (sv_for (passes_of rfl) rfl (iv_r1 rfl hB.n_range (avr_cons (by decide) (ev_var (pv 0)) av_nil)) (gv_n sc_closed.nd rfl (by first | exact .inl rfl | exact .inr rfl)) (nios (l := []) rfl rfl) (svs_W (nios (l := []) rfl rfl) (sv_one (sv_for (passes_of rfl) rfl (iv_r1 rfl hB.n_range (avr_cons (by decide) (ev_var (pv 0)) av_nil)) (gv_n sc_closed.nd rfl (by first | exact .inl rfl | exact .inr rfl)) (nios (l := []) rfl rfl) (svs_W (nios (l := []) rfl rfl) (sv_one (sv_for (passes_of rfl) rfl (iv_r1 rfl hB.n_range (avr_cons (by decide) (ev_var (pv 0)) av_nil)) (gv_n sc_closed.nd rfl (by first | exact .inl rfl | exact .inr rfl)) (nios (l := []) rfl rfl) (svs_W (nios (l := []) rfl rfl) (sv_one (sv_if (tv_w (wv_and (tv_din (u1 hr) (ev_tup (av_cons (ev_var (pv 5)) (av_cons (ev_var (pv 4)) av_nil))) (pv 2)) (wv_and1 (tv_din (u1 hr) (ev_tup (av_cons (ev_var (pv 4)) (av_cons (ev_var (pv 6)) av_nil))) (pv 2))))) (sv_one (sv_dset (u1 hr) (pv 2) (ev_tup (av_cons (ev_var (pv 5)) (av_cons (ev_var (pv 6)) av_nil))) ev_bl)) sv_nil))))))))))
    (sv_one (sv_ret (ev_sortA rfl hB.n_sorted (avr_cons (by decide) (ev_dlist rfl rfl hB.n_list (pv 2)) av_nil))))))
def n_is_order : List Str := ["thing", "many", "pairs", "pair"]
theorem sc_is_order : FnScope n_is_order ["thing"] (defScope (top 14)) := ⟨rfl, rfl, rfl, by decide +kernel, rfl, by decide +kernel, by decide +kernel⟩
theorem ok_is_order {P : Program} {w : World} {K : PySem.W.Frag} {mg : Str → Option Value} {base : Heap} {T : List (Addr × Str)} {xc : Nat → Value} (A : At K mg "is_order" (top 14)) (hB : BN mg) (D_is_number : Def P w K mg base T xc "is_number" 2 ["thing"] [.s] .sh f_is_number) (D_is_pair : Def P w K mg base T xc "is_pair" 3 ["many", "thing"] [.s, .s] .sh f_is_pair) (D_closed : Def P w K mg base T xc "closed" 1 ["many", "pairs"] [.s, .s] .fr f_closed) : Def P w K mg base T xc "is_order" (4) ["thing"] [.s] .sh f_is_order :=
  def_at (k := 3) A sc_is_order rfl (by decide) (fun _ _ _ _ _ _ us hl => match us, hl with | [_], _ => rfl) fun f cdv A outer s H E I hr =>
    (sv_cons (sv_if (tv_w (wv_or (tv_not (tv_val (ev_isi rfl hB.n_isinstance (ev_sr (ev_var (pv 0))) rfl hB.n_tuple rfl))) (wv_or (tv_cmp (ob_ne hr.units) (e2_e (by decide) (ev_len rfl hB.n_len (avr_cons (by decide) (ev_var (pv 0)) av_nil)) ev_int) rfl) (wv_or (tv_not (tv_val (ev_callD D_is_number hr (by omega) rfl (takes_of rfl rfl rfl rfl) (by decide) (mv_s (ev_ix (e2_e (by decide) (ev_var (pv 0)) ev_int)) mv_nil)))) (wv_or1 (tv_not (tv_val (ev_isi rfl hB.n_isinstance (ev_sr (ev_ix (e2_e (by decide) (ev_var (pv 0)) ev_int))) rfl hB.n_tuple rfl)))))))) (sv_one (sv_ret ev_bl)) sv_nil)
    (sv_cons (sv_tup (ev_var (pv 0)) (gv_t rfl (pgs_cons (pg_name (i := 1) sc_is_order.nd rfl (by first | exact .inl rfl | exact .inr rfl)) (pgs_cons (pg_name (i := 2) sc_is_order.nd rfl (by first | exact .inl rfl | exact .inr rfl)) pgs_nil))) (nios (l := []) rfl rfl))
    (sv_cons (sv_if (tv_not (tv_val (ev_all rfl rfl hB.n_all (avr_cons (by decide) (ev_lc [3] rfl rfl sc_is_order.nd (iv_seq (ev_var (pv 2))) (blkOk_by (own := [("pair", 3)]) (N := n_is_order) (sc := defScope (top 14)) (by decide +kernel)) (by decide) (nios (l := []) rfl rfl) (fun _ _ _ _ _ => (gv_n sc_is_order.nd rfl (by first | exact .inl rfl | exact .inr rfl))) (fun _ _ _ _ _ => nv_nil) (fun _ _ _ _ _ => (ev_and (ev_callD D_is_pair hr (by omega) rfl LamX.takes0 (by decide) (mv_s (ev_var (pv 1)) (mv_s (ev_var (pv 3)) mv_nil))) (ev_one (ev_cmp (ob_ne hr.units) (e2_e (by decide) (ev_ix (e2_e (by decide) (ev_var (pv 3)) ev_int)) (ev_ix (e2_e (by decide) (ev_var (pv 3)) ev_int))) rfl))))) av_nil)))) (sv_one (sv_ret ev_bl)) sv_nil)
    (sv_one (sv_ret (ev_cmp (ob_eq hr.units) (e2_e (by decide) (ev_callD D_closed hr (by omega) rfl (takes_of rfl rfl rfl rfl) (by decide) (mv_s (ev_var (pv 1)) (mv_s (ev_var (pv 2)) mv_nil))) (ev_list rfl hB.n_list (avr_cons (by decide) (ev_var (pv 2)) av_nil))) rfl))))))
def n_need_order : List Str := ["thing"]
theorem sc_need_order : FnScope n_need_order ["thing"] (defScope (top 15)) := ⟨rfl, rfl, rfl, by decide +kernel, rfl, by decide +kernel, by decide +kernel⟩
theorem ok_need_order {P : Program} {w : World} {K : PySem.W.Frag} {mg : Str → Option Value} {base : Heap} {T : List (Addr × Str)} {xc : Nat → Value} (A : At K mg "need_order" (top 15)) (hB : BN mg) (D_is_order : Def P w K mg base T xc "is_order" 4 ["thing"] [.s] .sh f_is_order) (R_NoOrder : RaiseD K mg xc 0 "NoOrder") : Def P w K mg base T xc "need_order" (5) ["thing"] [.s] .sh f_need_order :=
  def_at (k := 4) A sc_need_order rfl (by decide) (fun _ _ _ _ _ _ us hl => match us, hl with | [_], _ => rfl) fun f cdv A outer s H E I hr =>
    (sv_one (sv_if (tv_not (tv_val (ev_callD D_is_order hr (by omega) rfl (takes_of rfl rfl rfl rfl) (by decide) (mv_s (ev_var (pv 0)) mv_nil)))) (sv_one (sv_raiseD R_NoOrder rfl (takes_of rfl rfl rfl rfl) rfl)) sv_nil))
def n_order_of : List Str := ["many", "pairs", "pair", "found", "a", "b"]
theorem sc_order_of : FnScope n_order_of ["many", "pairs"] (defScope (top 16)) := ⟨rfl, rfl, rfl, by decide +kernel, rfl, by decide +kernel, by decide +kernel⟩
theorem ok_order_of {P : Program} {w : World} {K : PySem.W.Frag} {mg : Str → Option Value} {base : Heap} {T : List (Addr × Str)} {xc : Nat → Value} (A : At K mg "order_of" (top 16)) (hB : BN mg) (D_is_number : Def P w K mg base T xc "is_number" 2 ["thing"] [.s] .sh f_is_number) (D_is_pair : Def P w K mg base T xc "is_pair" 3 ["many", "thing"] [.s, .s] .sh f_is_pair) (D_closed : Def P w K mg base T xc "closed" 1 ["many", "pairs"] [.s, .s] .fr f_closed) (R_NoNumber : RaiseD K mg xc 1 "NoNumber") (R_NoPairs : RaiseD K mg xc 2 "NoPairs") (R_Round : RaiseD K mg xc 3 "Round") : Def P w K mg base T xc "order_of" (4) ["many", "pairs"] [.s, .s] .sh f_order_of :=
  def_at (k := 3) A sc_order_of rfl (by decide) (fun _ _ _ _ _ _ us hl => match us, hl with | [_, _], _ => rfl) fun f cdv A outer s H E I hr =>
    (sv_cons (sv_if (tv_not (tv_val (ev_callD D_is_number hr (by omega) rfl (takes_of rfl rfl rfl rfl) (by decide) (mv_s (ev_var (pv 0)) mv_nil)))) (sv_one (sv_raiseD R_NoNumber rfl (takes_of rfl rfl rfl rfl) rfl)) sv_nil)
    (sv_cons (sv_if (tv_w (wv_or (tv_not (tv_val (ev_isi rfl hB.n_isinstance (ev_sr (ev_var (pv 1))) rfl hB.n_list rfl))) (wv_or1 (tv_not (tv_val (ev_all rfl rfl hB.n_all (avr_cons (by decide) (ev_lc [2] rfl rfl sc_order_of.nd (iv_seq (ev_var (pv 1))) (blkOk_by (own := [("pair", 2)]) (N := n_order_of) (sc := defScope (top 16)) (by decide +kernel)) (by decide) (nios (l := []) rfl rfl) (fun _ _ _ _ _ => (gv_n sc_order_of.nd rfl (by first | exact .inl rfl | exact .inr rfl))) (fun _ _ _ _ _ => nv_nil) (fun _ _ _ _ _ => (ev_callD D_is_pair hr (by omega) rfl LamX.takes0 (by decide) (mv_s (ev_var (pv 0)) (mv_s (ev_var (pv 2)) mv_nil))))) av_nil))))))) (sv_one (sv_raiseD R_NoPairs rfl (takes_of rfl rfl rfl rfl) rfl)) sv_nil)
    (sv_cons (sv_asg (ev_fs (ev_callD D_closed hr (by omega) rfl (takes_of rfl rfl rfl rfl) (by decide) (mv_s (ev_var (pv 0)) (mv_s (ev_var (pv 1)) mv_nil)))) (nio (l := []) rfl rfl) sc_order_of.nd rfl (by first | exact .inl rfl | exact .inr rfl))
    (sv_cons (sv_if (tv_val (ev_any rfl rfl hB.n_any (avr_cons (by decide) (ev_lc [4, 5] rfl rfl sc_order_of.nd (iv_seq (ev_var (pv 3))) (blkOk_by (own := [("a", 4), ("b", 5)]) (N := n_order_of) (sc := defScope (top 16)) (by decide +kernel)) (by decide) (nios (l := []) rfl rfl) (fun _ _ _ _ _ => (gv_t rfl (pgs_cons (pg_name (i := 4) sc_order_of.nd rfl (by first | exact .inl rfl | exact .inr rfl)) (pgs_cons (pg_name (i := 5) sc_order_of.nd rfl (by first | exact .inl rfl | exact .inr rfl)) pgs_nil)))) (fun _ _ _ _ _ => nv_nil) (fun _ _ _ _ _ => (ev_cmp (ob_eq hr.units) (e2_e (by decide) (ev_var (pv 4)) (ev_var (pv 5))) rfl))) av_nil))) (sv_one (sv_raiseD R_Round rfl (takes_of rfl rfl rfl rfl) rfl)) sv_nil)
    (sv_one (sv_ret (ev_tup (av_cons (ev_var (pv 0)) (av_cons (ev_tuple rfl hB.n_tuple (avr_cons (by decide) (ev_var (pv 3)) av_nil)) av_nil)))))))))
def n_are_loose : List Str := ["order", "a", "b"]
theorem sc_are_loose : FnScope n_are_loose ["order", "a", "b"] (defScope (top 17)) := ⟨rfl, rfl, rfl, by decide +kernel, rfl, by decide +kernel, by decide +kernel⟩
theorem ok_are_loose {P : Program} {w : World} {K : PySem.W.Frag} {mg : Str → Option Value} {base : Heap} {T : List (Addr × Str)} {xc : Nat → Value} (A : At K mg "are_loose" (top 17)) (hB : BN mg) : Def P w K mg base T xc "are_loose" (1) ["order", "a", "b"] [.s, .s, .s] .sh f_are_loose :=
  def_at (k := 0) A sc_are_loose rfl (by decide) (fun _ _ _ _ _ _ us hl => match us, hl with | [_, _, _], _ => rfl) fun f cdv A outer s H E I hr =>
    (sv_one (sv_ret (ev_and (ev_cmp (ob_ne hr.units) (e2_e (by decide) (ev_var (pv 1)) (ev_var (pv 2))) rfl) (ev_and (ev_cmp (ob_ni (u65 hr)) (e2_e (by decide) (ev_tup (av_cons (ev_var (pv 1)) (av_cons (ev_var (pv 2)) av_nil))) (ev_ix (e2_e (by decide) (ev_var (pv 0)) ev_int))) rfl) (ev_one (ev_cmp (ob_ni (u65 hr)) (e2_e (by decide) (ev_tup (av_cons (ev_var (pv 2)) (av_cons (ev_var (pv 1)) av_nil))) (ev_ix (e2_e (by decide) (ev_var (pv 0)) ev_int))) rfl))))))
def n_all_loose : List Str := ["order", "found", "a", "b"]
theorem sc_all_loose : FnScope n_all_loose ["order"] (defScope (top 18)) := ⟨rfl, rfl, rfl, by decide +kernel, rfl, by decide +kernel, by decide +kernel⟩
theorem ok_all_loose {P : Program} {w : World} {K : PySem.W.Frag} {mg : Str → Option Value} {base : Heap} {T : List (Addr × Str)} {xc : Nat → Value} (A : At K mg "all_loose" (top 18)) (hB : BN mg) (D_are_loose : Def P w K mg base T xc "are_loose" 1 ["order", "a", "b"] [.s, .s, .s] .sh f_are_loose) : Def P w K mg base T xc "all_loose" (2) ["order"] [.s] .fr f_all_loose :=
  def_at (k := 1) A sc_all_loose rfl (by decide) (fun _ _ _ _ _ _ us hl => match us, hl with | [_], _ => rfl) fun f cdv A outer s H E I hr =>
    (sv_cons (sv_asgO (ev_lst av_nil) (nio (l := []) rfl rfl) sc_all_loose.nd rfl (by first | exact .inl rfl | exact .inr rfl))
    (sv_cons (sv_for (passes_of rfl) rfl (iv_r1 rfl hB.n_range (avr_cons (by decide) (ev_ix (e2_e (by decide) (ev_var (pv 0)) ev_int)) av_nil)) (gv_n sc_all_loose.nd rfl (by first | exact .inl rfl | exact .inr rfl)) (nios (l := []) rfl rfl) (svs_W (nios (l := []) rfl rfl) (sv_one (sv_expr (ev_mut PySem.F.slot_list_extend rfl mt_extend an_extend (pv 1) (avr_cons (by decide) (ev_lc [3] rfl rfl sc_all_loose.nd (iv_r2 rfl hB.n_range (avr_cons (by decide) (ev_add (e2_e (by decide) (ev_var (pv 2)) ev_int)) (avr_cons (by decide) (ev_ix (e2_e (by decide) (ev_var (pv 0)) ev_int)) av_nil))) (blkOk_by (own := [("b", 3)]) (N := n_all_loose) (sc := defScope (top 18)) (by decide +kernel)) (by decide) (nios (l := []) rfl rfl) (fun _ _ _ _ _ => (gv_n sc_all_loose.nd rfl (by first | exact .inl rfl | exact .inr rfl))) (fun _ _ _ _ _ => (nv_one (tv_val (ev_callD D_are_loose hr (by omega) rfl LamX.takes0 (by decide) (mv_s (ev_var (pv 0)) (mv_s (ev_var (pv 2)) (mv_s (ev_var (pv 3)) mv_nil))))))) (fun _ _ _ _ _ => (ev_tup (av_cons (ev_var (pv 2)) (av_cons (ev_var (pv 3)) av_nil))))) av_nil))))))
    (sv_one (sv_ret (ev_mv (pv 1) (nio (l := []) rfl rfl))))))
def n_loose_pairs : List Str := ["order"]
theorem sc_loose_pairs : FnScope n_loose_pairs ["order"] (defScope (top 19)) := ⟨rfl, rfl, rfl, by decide +kernel, rfl, by decide +kernel, by decide +kernel⟩
theorem ok_loose_pairs {P : Program} {w : World} {K : PySem.W.Frag} {mg : Str → Option Value} {base : Heap} {T : List (Addr × Str)} {xc : Nat → Value} (A : At K mg "loose_pairs" (top 19)) (hB : BN mg) (D_need_order : Def P w K mg base T xc "need_order" 5 ["thing"] [.s] .sh f_need_order) (D_all_loose : Def P w K mg base T xc "all_loose" 2 ["order"] [.s] .fr f_all_loose) : Def P w K mg base T xc "loose_pairs" (6) ["order"] [.s] .fr f_loose_pairs :=
  def_at (k := 5) A sc_loose_pairs rfl (by decide) (fun _ _ _ _ _ _ us hl => match us, hl with | [_], _ => rfl) fun f cdv A outer s H E I hr =>
    (sv_cons (sv_expr (ev_callD D_need_order hr (by omega) rfl (takes_of rfl rfl rfl rfl) (by decide) (mv_s (ev_var (pv 0)) mv_nil)))
    (sv_one (sv_ret (ev_callD D_all_loose hr (by omega) rfl (takes_of rfl rfl rfl rfl) (by decide) (mv_s (ev_var (pv 0)) mv_nil)))))
def n_turned : List Str := ["order", "a", "b"]
theorem sc_turned : FnScope n_turned ["order"] (defScope (top 20)) := ⟨rfl, rfl, rfl, by decide +kernel, rfl, by decide +kernel, by decide +kernel⟩
theorem ok_turned {P : Program} {w : World} {K : PySem.W.Frag} {mg : Str → Option Value} {base : Heap} {T : List (Addr × Str)} {xc : Nat → Value} (A : At K mg "turned" (top 20)) (hB : BN mg) (D_need_order : Def P w K mg base T xc "need_order" 5 ["thing"] [.s] .sh f_need_order) : Def P w K mg base T xc "turned" (6) ["order"] [.s] .sh f_turned :=
  def_at (k := 5) A sc_turned rfl (by decide) (fun _ _ _ _ _ _ us hl => match us, hl with | [_], _ => rfl) fun f cdv A outer s H E I hr =>
    (sv_cons (sv_expr (ev_callD D_need_order hr (by omega) rfl (takes_of rfl rfl rfl rfl) (by decide) (mv_s (ev_var (pv 0)) mv_nil)))
    (sv_one (sv_ret (ev_tup (av_cons (ev_ix (e2_e (by decide) (ev_var (pv 0)) ev_int)) (av_cons (ev_tuple rfl hB.n_tuple (avr_cons (by decide) (ev_sortA rfl hB.n_sorted (avr_cons (by decide) (ev_lc [1, 2] rfl rfl sc_turned.nd (iv_seq (ev_ix (e2_e (by decide) (ev_var (pv 0)) ev_int))) (blkOk_by (own := [("a", 1), ("b", 2)]) (N := n_turned) (sc := defScope (top 20)) (by decide +kernel)) (by decide) (nios (l := []) rfl rfl) (fun _ _ _ _ _ => (gv_t rfl (pgs_cons (pg_name (i := 1) sc_turned.nd rfl (by first | exact .inl rfl | exact .inr rfl)) (pgs_cons (pg_name (i := 2) sc_turned.nd rfl (by first | exact .inl rfl | exact .inr rfl)) pgs_nil)))) (fun _ _ _ _ _ => nv_nil) (fun _ _ _ _ _ => (ev_tup (av_cons (ev_var (pv 2)) (av_cons (ev_var (pv 1)) av_nil))))) av_nil)) av_nil)) av_nil))))))
def n_row_good : List Str := ["order", "thing", "one", "a", "b"]
theorem sc_row_good : FnScope n_row_good ["order", "thing"] (defScope (top 22)) := ⟨rfl, rfl, rfl, by decide +kernel, rfl, by decide +kernel, by decide +kernel⟩
theorem ok_row_good {P : Program} {w : World} {K : PySem.W.Frag} {mg : Str → Option Value} {base : Heap} {T : List (Addr × Str)} {xc : Nat → Value} (A : At K mg "row_good" (top 22)) (hB : BN mg) (D_is_thing : Def P w K mg base T xc "is_thing" 2 ["many", "thing"] [.s, .s] .sh f_is_thing) : Def P w K mg base T xc "row_good" (3) ["order", "thing"] [.s, .s] .sh f_row_good :=
  def_at (k := 2) A sc_row_good rfl (by decide) (fun _ _ _ _ _ _ us hl => match us, hl with | [_, _], _ => rfl) fun f cdv A outer s H E I hr =>
    (sv_cons (sv_if (tv_w (wv_or (tv_not (tv_val (ev_isi rfl hB.n_isinstance (ev_sr (ev_var (pv 1))) rfl hB.n_tuple rfl))) (wv_or1 (tv_not (tv_val (ev_all rfl rfl hB.n_all (avr_cons (by decide) (ev_lc [2] rfl rfl sc_row_good.nd (iv_seq (ev_var (pv 1))) (blkOk_by (own := [("one", 2)]) (N := n_row_good) (sc := defScope (top 22)) (by decide +kernel)) (by decide) (nios (l := []) rfl rfl) (fun _ _ _ _ _ => (gv_n sc_row_good.nd rfl (by first | exact .inl rfl | exact .inr rfl))) (fun _ _ _ _ _ => nv_nil) (fun _ _ _ _ _ => (ev_callD D_is_thing hr (by omega) rfl LamX.takes0 (by decide) (mv_s (ev_ix (e2_e (by decide) (ev_var (pv 0)) ev_int)) (mv_s (ev_var (pv 2)) mv_nil))))) av_nil))))))) (sv_one (sv_ret ev_bl)) sv_nil)
    (sv_cons (sv_if (tv_cmp (ob_ne hr.units) (e2_e (by decide) (ev_sortA rfl hB.n_sorted (avr_cons (by decide) (ev_var (pv 1)) av_nil)) (ev_lr1 rfl rfl hB.n_list rfl hB.n_range (ev_ix (e2_e (by decide) (ev_var (pv 0)) ev_int)))) rfl) (sv_one (sv_ret ev_bl)) sv_nil)
    (sv_one (sv_ret (ev_all rfl rfl hB.n_all (avr_cons (by decide) (ev_lc [3, 4] rfl rfl sc_row_good.nd (iv_seq (ev_ix (e2_e (by decide) (ev_var (pv 0)) ev_int))) (blkOk_by (own := [("a", 3), ("b", 4)]) (N := n_row_good) (sc := defScope (top 22)) (by decide +kernel)) (by decide) (nios (l := []) rfl rfl) (fun _ _ _ _ _ => (gv_t rfl (pgs_cons (pg_name (i := 3) sc_row_good.nd rfl (by first | exact .inl rfl | exact .inr rfl)) (pgs_cons (pg_name (i := 4) sc_row_good.nd rfl (by first | exact .inl rfl | exact .inr rfl)) pgs_nil)))) (fun _ _ _ _ _ => nv_nil) (fun _ _ _ _ _ => (ev_cmp ob_lt (e2_e (by decide) (ev_index (ev_var (pv 1)) (av_cons (ev_var (pv 3)) av_nil)) (ev_index (ev_var (pv 1)) (av_cons (ev_var (pv 4)) av_nil))) rfl))) av_nil))))))
def n_is_row : List Str := ["order", "thing"]
theorem sc_is_row : FnScope n_is_row ["order", "thing"] (defScope (top 23)) := ⟨rfl, rfl, rfl, by decide +kernel, rfl, by decide +kernel, by decide +kernel⟩
theorem ok_is_row {P : Program} {w : World} {K : PySem.W.Frag} {mg : Str → Option Value} {base : Heap} {T : List (Addr × Str)} {xc : Nat → Value} (A : At K mg "is_row" (top 23)) (hB : BN mg) (D_need_order : Def P w K mg base T xc "need_order" 5 ["thing"] [.s] .sh f_need_order) (D_row_good : Def P w K mg base T xc "row_good" 3 ["order", "thing"] [.s, .s] .sh f_row_good) : Def P w K mg base T xc "is_row" (6) ["order", "thing"] [.s, .s] .sh f_is_row :=
  def_at (k := 5) A sc_is_row rfl (by decide) (fun _ _ _ _ _ _ us hl => match us, hl with | [_, _], _ => rfl) fun f cdv A outer s H E I hr =>
    (sv_cons (sv_expr (ev_callD D_need_order hr (by omega) rfl (takes_of rfl rfl rfl rfl) (by decide) (mv_s (ev_var (pv 0)) mv_nil)))
    (sv_one (sv_ret (ev_callD D_row_good hr (by omega) rfl (takes_of rfl rfl rfl rfl) (by decide) (mv_s (ev_var (pv 0)) (mv_s (ev_var (pv 1)) mv_nil))))))
def n_need_row : List Str := ["order", "thing"]
theorem sc_need_row : FnScope n_need_row ["order", "thing"] (defScope (top 24)) := ⟨rfl, rfl, rfl, by decide +kernel, rfl, by decide +kernel, by decide +kernel⟩
theorem ok_need_row {P : Program} {w : World} {K : PySem.W.Frag} {mg : Str → Option Value} {base : Heap} {T : List (Addr × Str)} {xc : Nat → Value} (A : At K mg "need_row" (top 24)) (hB : BN mg) (D_row_good : Def P w K mg base T xc "row_good" 3 ["order", "thing"] [.s, .s] .sh f_row_good) (R_NoRow : RaiseD K mg xc 5 "NoRow") : Def P w K mg base T xc "need_row" (4) ["order", "thing"] [.s, .s] .sh f_need_row :=
  def_at (k := 3) A sc_need_row rfl (by decide) (fun _ _ _ _ _ _ us hl => match us, hl with | [_, _], _ => rfl) fun f cdv A outer s H E I hr =>
    (sv_one (sv_if (tv_not (tv_val (ev_callD D_row_good hr (by omega) rfl (takes_of rfl rfl rfl rfl) (by decide) (mv_s (ev_var (pv 0)) (mv_s (ev_var (pv 1)) mv_nil))))) (sv_one (sv_raiseD R_NoRow rfl (takes_of rfl rfl rfl rfl) rfl)) sv_nil))
def n_may_come : List Str := ["order", "row", "found", "thing", "a", "b"]
theorem sc_may_come : FnScope n_may_come ["order", "row"] (defScope (top 25)) := ⟨rfl, rfl, rfl, by decide +kernel, rfl, by decide +kernel, by decide +kernel⟩
theorem ok_may_come {P : Program} {w : World} {K : PySem.W.Frag} {mg : Str → Option Value} {base : Heap} {T : List (Addr × Str)} {xc : Nat → Value} (A : At K mg "may_come" (top 25)) (hB : BN mg) : Def P w K mg base T xc "may_come" (1) ["order", "row"] [.s, .s] .fr f_may_come :=
  def_at (k := 0) A sc_may_come rfl (by decide) (fun _ _ _ _ _ _ us hl => match us, hl with | [_, _], _ => rfl) fun f cdv A outer s H E I hr =>
    (sv_cons (sv_asgO (ev_lst av_nil) (nio (l := []) rfl rfl) sc_may_come.nd rfl (by first | exact .inl rfl | exact .inr rfl))
    (sv_cons (sv_for (passes_of rfl) rfl (iv_r1 rfl hB.n_range (avr_cons (by decide) (ev_ix (e2_e (by decide) (ev_var (pv 0)) ev_int)) av_nil)) (gv_n sc_may_come.nd rfl (by first | exact .inl rfl | exact .inr rfl)) (nios (l := []) rfl rfl) (svs_W (nios (l := []) rfl rfl) (sv_one (sv_if (tv_w (wv_and (tv_cmp (ob_ni (u65 hr)) (e2_e (by decide) (ev_var (pv 3)) (ev_var (pv 1))) rfl) (wv_and1 (tv_val (ev_all rfl rfl hB.n_all (avr_cons (by decide) (ev_lc [4, 5] rfl rfl sc_may_come.nd (iv_seq (ev_ix (e2_e (by decide) (ev_var (pv 0)) ev_int))) (blkOk_by (own := [("a", 4), ("b", 5)]) (N := n_may_come) (sc := defScope (top 25)) (by decide +kernel)) (by decide) (nios (l := []) rfl rfl) (fun _ _ _ _ _ => (gv_t rfl (pgs_cons (pg_name (i := 4) sc_may_come.nd rfl (by first | exact .inl rfl | exact .inr rfl)) (pgs_cons (pg_name (i := 5) sc_may_come.nd rfl (by first | exact .inl rfl | exact .inr rfl)) pgs_nil)))) (fun _ _ _ _ _ => (nv_one (tv_cmp (ob_eq hr.units) (e2_e (by decide) (ev_var (pv 5)) (ev_var (pv 3))) rfl))) (fun _ _ _ _ _ => (ev_cmp (ob_in (u65 hr)) (e2_e (by decide) (ev_var (pv 4)) (ev_var (pv 1))) rfl))) av_nil)))))) (sv_one (sv_expr (ev_mut PySem.F.slot_list_append rfl mt_append an_append (pv 2) (av_cons (ev_var (pv 3)) av_nil)))) sv_nil))))
    (sv_one (sv_ret (ev_mv (pv 2) (nio (l := []) rfl rfl))))))
def n_rows_of : List Str := ["order", "found", "turn", "longer", "row", "thing"]
theorem sc_rows_of : FnScope n_rows_of ["order"] (defScope (top 26)) := ⟨rfl, rfl, rfl, by decide +kernel, rfl, by decide +kernel, by decide +kernel⟩
theorem ok_rows_of {P : Program} {w : World} {K : PySem.W.Frag} {mg : Str → Option Value} {base : Heap} {T : List (Addr × Str)} {xc : Nat → Value} (A : At K mg "rows_of" (top 26)) (hB : BN mg) (D_may_come : Def P w K mg base T xc "may_come" 1 ["order", "row"] [.s, .s] .fr f_may_come) : Def P w K mg base T xc "rows_of" (2) ["order"] [.s] .sh f_rows_of :=
  def_at (k := 1) A sc_rows_of rfl (by decide) (fun _ _ _ _ _ _ us hl => match us, hl with | [_], _ => rfl) fun f cdv A outer s H E I hr =>
    (sv_cons (sv_asg (ev_fs (ev_lst (av_cons (ev_tup av_nil) av_nil))) (nio (l := []) rfl rfl) sc_rows_of.nd rfl (by first | exact .inl rfl | exact .inr rfl))
    (sv_cons (sv_for (passes_of rfl) rfl (iv_r1 rfl hB.n_range (avr_cons (by decide) (ev_ix (e2_e (by decide) (ev_var (pv 0)) ev_int)) av_nil)) (gv_n sc_rows_of.nd rfl (by first | exact .inl rfl | exact .inr rfl)) (nios (l := []) rfl rfl) (svs_W (nios (l := []) rfl rfl) (sv_cons (sv_asgO (ev_lst av_nil) (nio (l := []) rfl rfl) sc_rows_of.nd rfl (by first | exact .inl rfl | exact .inr rfl))
    (sv_cons (sv_for (passes_of rfl) rfl (iv_seq (ev_var (pv 1))) (gv_n sc_rows_of.nd rfl (by first | exact .inl rfl | exact .inr rfl)) (nios (l := []) rfl rfl) (svs_W (nios (l := []) rfl rfl) (sv_one (sv_expr (ev_mut PySem.F.slot_list_extend rfl mt_extend an_extend (pv 3) (avr_cons (by decide) (ev_lc [5] rfl rfl sc_rows_of.nd (iv_seq (ev_fs (ev_callD D_may_come hr (by omega) rfl (takes_of rfl rfl rfl rfl) (by decide) (mv_s (ev_var (pv 0)) (mv_s (ev_var (pv 4)) mv_nil))))) (blkOk_by (own := [("thing", 5)]) (N := n_rows_of) (sc := defScope (top 26)) (by decide +kernel)) (by decide) (nios (l := []) rfl rfl) (fun _ _ _ _ _ => (gv_n sc_rows_of.nd rfl (by first | exact .inl rfl | exact .inr rfl))) (fun _ _ _ _ _ => nv_nil) (fun _ _ _ _ _ => (ev_add (e2_e (by decide) (ev_var (pv 4)) (ev_tup (av_cons (ev_var (pv 5)) av_nil)))))) av_nil))))))
    (sv_one (sv_asg (ev_shr (pv 3) (nio (l := []) rfl rfl)) (nio (l := []) rfl rfl) sc_rows_of.nd rfl (by first | exact .inl rfl | exact .inr rfl)))))))
    (sv_one (sv_ret (ev_var (pv 1))))))
def n_rows_many : List Str := ["order"]
theorem sc_rows_many : FnScope n_rows_many ["order"] (defScope (top 27)) := ⟨rfl, rfl, rfl, by decide +kernel, rfl, by decide +kernel, by decide +kernel⟩
theorem ok_rows_many {P : Program} {w : World} {K : PySem.W.Frag} {mg : Str → Option Value} {base : Heap} {T : List (Addr × Str)} {xc : Nat → Value} (A : At K mg "rows_many" (top 27)) (hB : BN mg) (D_need_order : Def P w K mg base T xc "need_order" 5 ["thing"] [.s] .sh f_need_order) (D_rows_of : Def P w K mg base T xc "rows_of" 2 ["order"] [.s] .sh f_rows_of) : Def P w K mg base T xc "rows_many" (6) ["order"] [.s] .sh f_rows_many :=
  def_at (k := 5) A sc_rows_many rfl (by decide) (fun _ _ _ _ _ _ us hl => match us, hl with | [_], _ => rfl) fun f cdv A outer s H E I hr =>
    (sv_cons (sv_expr (ev_callD D_need_order hr (by omega) rfl (takes_of rfl rfl rfl rfl) (by decide) (mv_s (ev_var (pv 0)) mv_nil)))
    (sv_one (sv_ret (ev_len rfl hB.n_len (avr_cons (by decide) (ev_callD D_rows_of hr (by omega) rfl (takes_of rfl rfl rfl rfl) (by decide) (mv_s (ev_var (pv 0)) mv_nil)) av_nil)))))
def n_apart : List Str := ["row", "pair"]
theorem sc_apart : FnScope n_apart ["row", "pair"] (defScope (top 28)) := ⟨rfl, rfl, rfl, by decide +kernel, rfl, by decide +kernel, by decide +kernel⟩
theorem ok_apart {P : Program} {w : World} {K : PySem.W.Frag} {mg : Str → Option Value} {base : Heap} {T : List (Addr × Str)} {xc : Nat → Value} (A : At K mg "apart" (top 28)) (hB : BN mg) : Def P w K mg base T xc "apart" (1) ["row", "pair"] [.s, .s] .sh f_apart :=
  def_at (k := 0) A sc_apart rfl (by decide) (fun _ _ _ _ _ _ us hl => match us, hl with | [_, _], _ => rfl) fun f cdv A outer s H E I hr =>
    (sv_one (sv_ret (ev_abs rfl hB.n_abs (avr_cons (by decide) (ev_sub (e2_e (by decide) (ev_index (ev_var (pv 0)) (av_cons (ev_ix (e2_e (by decide) (ev_var (pv 1)) ev_int)) av_nil)) (ev_index (ev_var (pv 0)) (av_cons (ev_ix (e2_e (by decide) (ev_var (pv 1)) ev_int)) av_nil)))) av_nil))))
def n_span_by : List Str := ["pairs", "row", "pair"]
theorem sc_span_by : FnScope n_span_by ["pairs", "row"] (defScope (top 29)) := ⟨rfl, rfl, rfl, by decide +kernel, rfl, by decide +kernel, by decide +kernel⟩
theorem ok_span_by {P : Program} {w : World} {K : PySem.W.Frag} {mg : Str → Option Value} {base : Heap} {T : List (Addr × Str)} {xc : Nat → Value} (A : At K mg "span_by" (top 29)) (hB : BN mg) (D_apart : Def P w K mg base T xc "apart" 1 ["row", "pair"] [.s, .s] .sh f_apart) : Def P w K mg base T xc "span_by" (2) ["pairs", "row"] [.s, .s] .sh f_span_by :=
  def_at (k := 1) A sc_span_by rfl (by decide) (fun _ _ _ _ _ _ us hl => match us, hl with | [_, _], _ => rfl) fun f cdv A outer s H E I hr =>
    (sv_one (sv_ret (ev_maxDef rfl hr.units rfl hB.n_max (avr_cons (by decide) (ev_lc [2] rfl rfl sc_span_by.nd (iv_seq (ev_var (pv 0))) (blkOk_by (own := [("pair", 2)]) (N := n_span_by) (sc := defScope (top 29)) (by decide +kernel)) (by decide) (nios (l := []) rfl rfl) (fun _ _ _ _ _ => (gv_n sc_span_by.nd rfl (by first | exact .inl rfl | exact .inr rfl))) (fun _ _ _ _ _ => nv_nil) (fun _ _ _ _ _ => (ev_callD D_apart hr (by omega) rfl LamX.takes0 (by decide) (mv_s (ev_var (pv 1)) (mv_s (ev_var (pv 2)) mv_nil))))) av_nil))))
def n_span_of : List Str := ["order", "row"]
theorem sc_span_of : FnScope n_span_of ["order", "row"] (defScope (top 30)) := ⟨rfl, rfl, rfl, by decide +kernel, rfl, by decide +kernel, by decide +kernel⟩
theorem ok_span_of {P : Program} {w : World} {K : PySem.W.Frag} {mg : Str → Option Value} {base : Heap} {T : List (Addr × Str)} {xc : Nat → Value} (A : At K mg "span_of" (top 30)) (hB : BN mg) (D_need_order : Def P w K mg base T xc "need_order" 5 ["thing"] [.s] .sh f_need_order) (D_all_loose : Def P w K mg base T xc "all_loose" 2 ["order"] [.s] .fr f_all_loose) (D_need_row : Def P w K mg base T xc "need_row" 4 ["order", "thing"] [.s, .s] .sh f_need_row) (D_span_by : Def P w K mg base T xc "span_by" 2 ["pairs", "row"] [.s, .s] .sh f_span_by) : Def P w K mg base T xc "span_of" (6) ["order", "row"] [.s, .s] .sh f_span_of :=
  def_at (k := 5) A sc_span_of rfl (by decide) (fun _ _ _ _ _ _ us hl => match us, hl with | [_, _], _ => rfl) fun f cdv A outer s H E I hr =>
    (sv_cons (sv_expr (ev_callD D_need_order hr (by omega) rfl (takes_of rfl rfl rfl rfl) (by decide) (mv_s (ev_var (pv 0)) mv_nil)))
    (sv_cons (sv_expr (ev_callD D_need_row hr (by omega) rfl (takes_of rfl rfl rfl rfl) (by decide) (mv_s (ev_var (pv 0)) (mv_s (ev_var (pv 1)) mv_nil))))
    (sv_one (sv_ret (ev_callD D_span_by hr (by omega) rfl (takes_of rfl rfl rfl rfl) (by decide) (mv_s (ev_fs (ev_callD D_all_loose hr (by omega) rfl (takes_of rfl rfl rfl rfl) (by decide) (mv_s (ev_var (pv 0)) mv_nil))) (mv_s (ev_var (pv 1)) mv_nil)))))))
def n_farthest : List Str := ["order", "row", "pairs", "span", "pair"]
theorem sc_farthest : FnScope n_farthest ["order", "row"] (defScope (top 31)) := ⟨rfl, rfl, rfl, by decide +kernel, rfl, by decide +kernel, by decide +kernel⟩
theorem ok_farthest {P : Program} {w : World} {K : PySem.W.Frag} {mg : Str → Option Value} {base : Heap} {T : List (Addr × Str)} {xc : Nat → Value} (A : At K mg "farthest" (top 31)) (hB : BN mg) (D_need_order : Def P w K mg base T xc "need_order" 5 ["thing"] [.s] .sh f_need_order) (D_all_loose : Def P w K mg base T xc "all_loose" 2 ["order"] [.s] .fr f_all_loose) (D_need_row : Def P w K mg base T xc "need_row" 4 ["order", "thing"] [.s, .s] .sh f_need_row) (D_apart : Def P w K mg base T xc "apart" 1 ["row", "pair"] [.s, .s] .sh f_apart) (D_span_by : Def P w K mg base T xc "span_by" 2 ["pairs", "row"] [.s, .s] .sh f_span_by) : Def P w K mg base T xc "farthest" (6) ["order", "row"] [.s, .s] .sh f_farthest :=
  def_at (k := 5) A sc_farthest rfl (by decide) (fun _ _ _ _ _ _ us hl => match us, hl with | [_, _], _ => rfl) fun f cdv A outer s H E I hr =>
    (sv_cons (sv_expr (ev_callD D_need_order hr (by omega) rfl (takes_of rfl rfl rfl rfl) (by decide) (mv_s (ev_var (pv 0)) mv_nil)))
    (sv_cons (sv_expr (ev_callD D_need_row hr (by omega) rfl (takes_of rfl rfl rfl rfl) (by decide) (mv_s (ev_var (pv 0)) (mv_s (ev_var (pv 1)) mv_nil))))
    (sv_cons (sv_asg (ev_fs (ev_callD D_all_loose hr (by omega) rfl (takes_of rfl rfl rfl rfl) (by decide) (mv_s (ev_var (pv 0)) mv_nil))) (nio (l := []) rfl rfl) sc_farthest.nd rfl (by first | exact .inl rfl | exact .inr rfl))
    (sv_cons (sv_asg (ev_callD D_span_by hr (by omega) rfl (takes_of rfl rfl rfl rfl) (by decide) (mv_s (ev_var (pv 2)) (mv_s (ev_var (pv 1)) mv_nil))) (nio (l := []) rfl rfl) sc_farthest.nd rfl (by first | exact .inl rfl | exact .inr rfl))
    (sv_cons (sv_for (passes_of rfl) rfl (iv_seq (ev_var (pv 2))) (gv_n sc_farthest.nd rfl (by first | exact .inl rfl | exact .inr rfl)) (nios (l := []) rfl rfl) (svs_W (nios (l := []) rfl rfl) (sv_one (sv_if (tv_cmp (ob_eq hr.units) (e2_e (by decide) (ev_callD D_apart hr (by omega) rfl (takes_of rfl rfl rfl rfl) (by decide) (mv_s (ev_var (pv 1)) (mv_s (ev_var (pv 4)) mv_nil))) (ev_var (pv 3))) rfl) (sv_one (sv_ret (ev_var (pv 4)))) sv_nil))))
    (sv_one (sv_ret ev_non)))))))
def n_spanned : List Str := ["order", "pairs", "row"]
theorem sc_spanned : FnScope n_spanned ["order"] (defScope (top 33)) := ⟨rfl, rfl, rfl, by decide +kernel, rfl, by decide +kernel, by decide +kernel⟩
theorem ok_spanned {P : Program} {w : World} {K : PySem.W.Frag} {mg : Str → Option Value} {base : Heap} {T : List (Addr × Str)} {xc : Nat → Value} (A : At K mg "spanned" (top 33)) (hB : BN mg) (D_all_loose : Def P w K mg base T xc "all_loose" 2 ["order"] [.s] .fr f_all_loose) (D_rows_of : Def P w K mg base T xc "rows_of" 2 ["order"] [.s] .sh f_rows_of) (D_span_by : Def P w K mg base T xc "span_by" 2 ["pairs", "row"] [.s, .s] .sh f_span_by) : Def P w K mg base T xc "spanned" (3) ["order"] [.s] .fr f_spanned :=
  def_at (k := 2) A sc_spanned rfl (by decide) (fun _ _ _ _ _ _ us hl => match us, hl with | [_], _ => rfl) fun f cdv A outer s H E I hr =>
    (sv_cons (sv_asg (ev_fs (ev_callD D_all_loose hr (by omega) rfl (takes_of rfl rfl rfl rfl) (by decide) (mv_s (ev_var (pv 0)) mv_nil))) (nio (l := []) rfl rfl) sc_spanned.nd rfl (by first | exact .inl rfl | exact .inr rfl))
    (sv_one (sv_ret (ev_lc [2] rfl rfl sc_spanned.nd (iv_seq (ev_callD D_rows_of hr (by omega) rfl (takes_of rfl rfl rfl rfl) (by decide) (mv_s (ev_var (pv 0)) mv_nil))) (blkOk_by (own := [("row", 2)]) (N := n_spanned) (sc := defScope (top 33)) (by decide +kernel)) (by decide) (nios (l := []) rfl rfl) (fun _ _ _ _ _ => (gv_n sc_spanned.nd rfl (by first | exact .inl rfl | exact .inr rfl))) (fun _ _ _ _ _ => nv_nil) (fun _ _ _ _ _ => (ev_tup (av_cons (ev_callD D_span_by hr (by omega) rfl LamX.takes0 (by decide) (mv_s (ev_var (pv 1)) (mv_s (ev_var (pv 2)) mv_nil))) (av_cons (ev_var (pv 2)) av_nil))))))))
def n_least_of : List Str := ["order", "span", "row"]
theorem sc_least_of : FnScope n_least_of ["order"] (defScope (top 34)) := ⟨rfl, rfl, rfl, by decide +kernel, rfl, by decide +kernel, by decide +kernel⟩
theorem ok_least_of {P : Program} {w : World} {K : PySem.W.Frag} {mg : Str → Option Value} {base : Heap} {T : List (Addr × Str)} {xc : Nat → Value} (A : At K mg "least_of" (top 34)) (hB : BN mg) (D_spanned : Def P w K mg base T xc "spanned" 3 ["order"] [.s] .fr f_spanned) : Def P w K mg base T xc "least_of" (4) ["order"] [.s] .sh f_least_of :=
  def_at (k := 3) A sc_least_of rfl (by decide) (fun _ _ _ _ _ _ us hl => match us, hl with | [_], _ => rfl) fun f cdv A outer s H E I hr =>
    (sv_one (sv_ret (ev_min rfl rfl hB.n_min (avr_cons (by decide) (ev_lc [1, 2] rfl rfl sc_least_of.nd (iv_seq (ev_fs (ev_callD D_spanned hr (by omega) rfl (takes_of rfl rfl rfl rfl) (by decide) (mv_s (ev_var (pv 0)) mv_nil)))) (blkOk_by (own := [("span", 1), ("row", 2)]) (N := n_least_of) (sc := defScope (top 34)) (by decide +kernel)) (by decide) (nios (l := []) rfl rfl) (fun _ _ _ _ _ => (gv_t rfl (pgs_cons (pg_name (i := 1) sc_least_of.nd rfl (by first | exact .inl rfl | exact .inr rfl)) (pgs_cons (pg_name (i := 2) sc_least_of.nd rfl (by first | exact .inl rfl | exact .inr rfl)) pgs_nil)))) (fun _ _ _ _ _ => nv_nil) (fun _ _ _ _ _ => (ev_var (pv 1)))) av_nil))))
def n_least_span : List Str := ["order"]
theorem sc_least_span : FnScope n_least_span ["order"] (defScope (top 35)) := ⟨rfl, rfl, rfl, by decide +kernel, rfl, by decide +kernel, by decide +kernel⟩
theorem ok_least_span {P : Program} {w : World} {K : PySem.W.Frag} {mg : Str → Option Value} {base : Heap} {T : List (Addr × Str)} {xc : Nat → Value} (A : At K mg "least_span" (top 35)) (hB : BN mg) (D_need_order : Def P w K mg base T xc "need_order" 5 ["thing"] [.s] .sh f_need_order) (D_least_of : Def P w K mg base T xc "least_of" 4 ["order"] [.s] .sh f_least_of) : Def P w K mg base T xc "least_span" (6) ["order"] [.s] .sh f_least_span :=
  def_at (k := 5) A sc_least_span rfl (by decide) (fun _ _ _ _ _ _ us hl => match us, hl with | [_], _ => rfl) fun f cdv A outer s H E I hr =>
    (sv_cons (sv_expr (ev_callD D_need_order hr (by omega) rfl (takes_of rfl rfl rfl rfl) (by decide) (mv_s (ev_var (pv 0)) mv_nil)))
    (sv_one (sv_ret (ev_callD D_least_of hr (by omega) rfl (takes_of rfl rfl rfl rfl) (by decide) (mv_s (ev_var (pv 0)) mv_nil)))))
def n_spans : List Str := ["order", "some", "span", "row"]
theorem sc_spans : FnScope n_spans ["order"] (defScope (top 36)) := ⟨rfl, rfl, rfl, by decide +kernel, rfl, by decide +kernel, by decide +kernel⟩
theorem ok_spans {P : Program} {w : World} {K : PySem.W.Frag} {mg : Str → Option Value} {base : Heap} {T : List (Addr × Str)} {xc : Nat → Value} (A : At K mg "spans" (top 36)) (hB : BN mg) (D_need_order : Def P w K mg base T xc "need_order" 5 ["thing"] [.s] .sh f_need_order) (D_spanned : Def P w K mg base T xc "spanned" 3 ["order"] [.s] .fr f_spanned) : Def P w K mg base T xc "spans" (6) ["order"] [.s] .fr f_spans :=
  def_at (k := 5) A sc_spans rfl (by decide) (fun _ _ _ _ _ _ us hl => match us, hl with | [_], _ => rfl) fun f cdv A outer s H E I hr =>
    (sv_cons (sv_expr (ev_callD D_need_order hr (by omega) rfl (takes_of rfl rfl rfl rfl) (by decide) (mv_s (ev_var (pv 0)) mv_nil)))
    (sv_cons (sv_asg (ev_fs (ev_lc [2, 3] rfl rfl sc_spans.nd (iv_seq (ev_fs (ev_callD D_spanned hr (by omega) rfl (takes_of rfl rfl rfl rfl) (by decide) (mv_s (ev_var (pv 0)) mv_nil)))) (blkOk_by (own := [("span", 2), ("row", 3)]) (N := n_spans) (sc := defScope (top 36)) (by decide +kernel)) (by decide) (nios (l := []) rfl rfl) (fun _ _ _ _ _ => (gv_t rfl (pgs_cons (pg_name (i := 2) sc_spans.nd rfl (by first | exact .inl rfl | exact .inr rfl)) (pgs_cons (pg_name (i := 3) sc_spans.nd rfl (by first | exact .inl rfl | exact .inr rfl)) pgs_nil)))) (fun _ _ _ _ _ => nv_nil) (fun _ _ _ _ _ => (ev_var (pv 2))))) (nio (l := []) rfl rfl) sc_spans.nd rfl (by first | exact .inl rfl | exact .inr rfl))
    (sv_one (sv_ret (ev_lc [2] rfl rfl sc_spans.nd (iv_r1 rfl hB.n_range (avr_cons (by decide) (ev_add (e2_e (by decide) (ev_max rfl rfl hB.n_max (avr_cons (by decide) (ev_var (pv 1)) av_nil)) ev_int)) av_nil)) (blkOk_by (own := [("span", 2)]) (N := n_spans) (sc := defScope (top 36)) (by decide +kernel)) (by decide) (nios (l := []) rfl rfl) (fun _ _ _ _ _ => (gv_n sc_spans.nd rfl (by first | exact .inl rfl | exact .inr rfl))) (fun _ _ _ _ _ => nv_nil) (fun _ _ _ _ _ => (ev_count (ev_var (pv 1)) (av_cons (ev_var (pv 2)) av_nil))))))))
def n_best_of : List Str := ["order", "some", "least", "span", "row"]
theorem sc_best_of : FnScope n_best_of ["order"] (defScope (top 37)) := ⟨rfl, rfl, rfl, by decide +kernel, rfl, by decide +kernel, by decide +kernel⟩
theorem ok_best_of {P : Program} {w : World} {K : PySem.W.Frag} {mg : Str → Option Value} {base : Heap} {T : List (Addr × Str)} {xc : Nat → Value} (A : At K mg "best_of" (top 37)) (hB : BN mg) (D_spanned : Def P w K mg base T xc "spanned" 3 ["order"] [.s] .fr f_spanned) : Def P w K mg base T xc "best_of" (4) ["order"] [.s] .fr f_best_of :=
  def_at (k := 3) A sc_best_of rfl (by decide) (fun _ _ _ _ _ _ us hl => match us, hl with | [_], _ => rfl) fun f cdv A outer s H E I hr =>
    (sv_cons (sv_asg (ev_fs (ev_callD D_spanned hr (by omega) rfl (takes_of rfl rfl rfl rfl) (by decide) (mv_s (ev_var (pv 0)) mv_nil))) (nio (l := []) rfl rfl) sc_best_of.nd rfl (by first | exact .inl rfl | exact .inr rfl))
    (sv_cons (sv_asg (ev_min rfl rfl hB.n_min (avr_cons (by decide) (ev_lc [3, 4] rfl rfl sc_best_of.nd (iv_seq (ev_var (pv 1))) (blkOk_by (own := [("span", 3), ("row", 4)]) (N := n_best_of) (sc := defScope (top 37)) (by decide +kernel)) (by decide) (nios (l := []) rfl rfl) (fun _ _ _ _ _ => (gv_t rfl (pgs_cons (pg_name (i := 3) sc_best_of.nd rfl (by first | exact .inl rfl | exact .inr rfl)) (pgs_cons (pg_name (i := 4) sc_best_of.nd rfl (by first | exact .inl rfl | exact .inr rfl)) pgs_nil)))) (fun _ _ _ _ _ => nv_nil) (fun _ _ _ _ _ => (ev_var (pv 3)))) av_nil)) (nio (l := []) rfl rfl) sc_best_of.nd rfl (by first | exact .inl rfl | exact .inr rfl))
    (sv_one (sv_ret (ev_lc [3, 4] rfl rfl sc_best_of.nd (iv_seq (ev_var (pv 1))) (blkOk_by (own := [("span", 3), ("row", 4)]) (N := n_best_of) (sc := defScope (top 37)) (by decide +kernel)) (by decide) (nios (l := []) rfl rfl) (fun _ _ _ _ _ => (gv_t rfl (pgs_cons (pg_name (i := 3) sc_best_of.nd rfl (by first | exact .inl rfl | exact .inr rfl)) (pgs_cons (pg_name (i := 4) sc_best_of.nd rfl (by first | exact .inl rfl | exact .inr rfl)) pgs_nil)))) (fun _ _ _ _ _ => (nv_one (tv_cmp (ob_eq hr.units) (e2_e (by decide) (ev_var (pv 3)) (ev_var (pv 2))) rfl))) (fun _ _ _ _ _ => (ev_var (pv 4))))))))
def n_best_rows : List Str := ["order"]
theorem sc_best_rows : FnScope n_best_rows ["order"] (defScope (top 38)) := ⟨rfl, rfl, rfl, by decide +kernel, rfl, by decide +kernel, by decide +kernel⟩
theorem ok_best_rows {P : Program} {w : World} {K : PySem.W.Frag} {mg : Str → Option Value} {base : Heap} {T : List (Addr × Str)} {xc : Nat → Value} (A : At K mg "best_rows" (top 38)) (hB : BN mg) (D_need_order : Def P w K mg base T xc "need_order" 5 ["thing"] [.s] .sh f_need_order) (D_best_of : Def P w K mg base T xc "best_of" 4 ["order"] [.s] .fr f_best_of) : Def P w K mg base T xc "best_rows" (6) ["order"] [.s] .fr f_best_rows :=
  def_at (k := 5) A sc_best_rows rfl (by decide) (fun _ _ _ _ _ _ us hl => match us, hl with | [_], _ => rfl) fun f cdv A outer s H E I hr =>
    (sv_cons (sv_expr (ev_callD D_need_order hr (by omega) rfl (takes_of rfl rfl rfl rfl) (by decide) (mv_s (ev_var (pv 0)) mv_nil)))
    (sv_one (sv_ret (ev_callD D_best_of hr (by omega) rfl (takes_of rfl rfl rfl rfl) (by decide) (mv_s (ev_var (pv 0)) mv_nil)))))
def n_first_best : List Str := ["order"]
theorem sc_first_best : FnScope n_first_best ["order"] (defScope (top 39)) := ⟨rfl, rfl, rfl, by decide +kernel, rfl, by decide +kernel, by decide +kernel⟩
theorem ok_first_best {P : Program} {w : World} {K : PySem.W.Frag} {mg : Str → Option Value} {base : Heap} {T : List (Addr × Str)} {xc : Nat → Value} (A : At K mg "first_best" (top 39)) (hB : BN mg) (D_need_order : Def P w K mg base T xc "need_order" 5 ["thing"] [.s] .sh f_need_order) (D_best_of : Def P w K mg base T xc "best_of" 4 ["order"] [.s] .fr f_best_of) : Def P w K mg base T xc "first_best" (6) ["order"] [.s] .sh f_first_best :=
  def_at (k := 5) A sc_first_best rfl (by decide) (fun _ _ _ _ _ _ us hl => match us, hl with | [_], _ => rfl) fun f cdv A outer s H E I hr =>
    (sv_cons (sv_expr (ev_callD D_need_order hr (by omega) rfl (takes_of rfl rfl rfl rfl) (by decide) (mv_s (ev_var (pv 0)) mv_nil)))
    (sv_one (sv_ret (ev_ix (e2_e (by decide) (ev_callD D_best_of hr (by omega) rfl (takes_of rfl rfl rfl rfl) (by decide) (mv_s (ev_var (pv 0)) mv_nil)) ev_int)))))
def n__law_cell_at : List Str := ["_law_script", "_law_k"]
theorem sc__law_cell_at : FnScope n__law_cell_at ["_law_script", "_law_k"] (defScope (top 41)) := ⟨rfl, rfl, rfl, by decide +kernel, rfl, by decide +kernel, by decide +kernel⟩
theorem ok__law_cell_at {P : Program} {w : World} {K : PySem.W.Frag} {mg : Str → Option Value} {base : Heap} {T : List (Addr × Str)} {xc : Nat → Value} (A : At K mg "_law_cell_at" (top 41)) (hB : BN mg) : Def P w K mg base T xc "_law_cell_at" (1) ["_law_script", "_law_k"] [.s, .s] .sh f_Lcell_at :=
  def_at (k := 0) A sc__law_cell_at rfl (by decide) (fun _ _ _ _ _ _ us hl => match us, hl with | [_, _], _ => rfl) fun f cdv A outer s H E I hr =>
    (sv_cons (sv_if (tv_cmp ob_lt (e2_e (by decide) (ev_var (pv 1)) (ev_len rfl hB.n_len (avr_cons (by decide) (ev_var (pv 0)) av_nil))) rfl) (sv_one (sv_ret (ev_ix (e2_e (by decide) (ev_var (pv 0)) (ev_var (pv 1)))))) sv_nil)
    (sv_one (sv_ret ev_int)))
def n__law_state : List Str := ["_law_script", "_law_k", "_law_cell"]
theorem sc__law_state : FnScope n__law_state ["_law_script", "_law_k"] (defScope (top 42)) := ⟨rfl, rfl, rfl, by decide +kernel, rfl, by decide +kernel, by decide +kernel⟩
theorem ok__law_state {P : Program} {w : World} {K : PySem.W.Frag} {mg : Str → Option Value} {base : Heap} {T : List (Addr × Str)} {xc : Nat → Value} (A : At K mg "_law_state" (top 42)) (hB : BN mg) (D__law_cell_at : Def P w K mg base T xc "_law_cell_at" 1 ["_law_script", "_law_k"] [.s, .s] .sh f_Lcell_at) : Def P w K mg base T xc "_law_state" (2) ["_law_script", "_law_k"] [.s, .s] .fr f_Lstate :=
  def_at (k := 1) A sc__law_state rfl (by decide) (fun _ _ _ _ _ _ us hl => match us, hl with | [_, _], _ => rfl) fun f cdv A outer s H E I hr =>
    (sv_cons (sv_asg (ev_callD D__law_cell_at hr (by omega) rfl (takes_of rfl rfl rfl rfl) (by decide) (mv_s (ev_var (pv 0)) (mv_s (ev_var (pv 1)) mv_nil))) (nio (l := []) rfl rfl) sc__law_state.nd rfl (by first | exact .inl rfl | exact .inr rfl))
    (sv_cons (sv_if (tv_cmp ob_ge (e2_e (by decide) (ev_var (pv 2)) (ev_pow (e2_e (by decide) ev_int ev_int))) rfl) (sv_one (sv_ret (ev_lst (av_cons (ev_sub (e2_e (by decide) (ev_var (pv 2)) (ev_pow (e2_e (by decide) ev_int ev_int)))) (av_cons ev_bl av_nil))))) sv_nil)
    (sv_one (sv_ret (ev_lst (av_cons (ev_mod (e2_e (by decide) (ev_var (pv 2)) ev_int)) (av_cons ev_bl av_nil)))))))
def n__law_take : List Str := ["_law_state_here", "_law_many", "_law_found", "_law_stirred"]
theorem sc__law_take : FnScope n__law_take ["_law_state_here", "_law_many"] (defScope (top 43)) := ⟨rfl, rfl, rfl, by decide +kernel, rfl, by decide +kernel, by decide +kernel⟩
theorem ok__law_take {P : Program} {w : World} {K : PySem.W.Frag} {mg : Str → Option Value} {base : Heap} {T : List (Addr × Str)} {xc : Nat → Value} (A : At K mg "_law_take" (top 43)) (hB : BN mg) : Def P w K mg base T xc "_law_take" (1) ["_law_state_here", "_law_many"] [.o, .s] .sh f_Ltake :=
  def_at (k := 0) A sc__law_take rfl (by decide) (fun _ _ _ _ _ _ us hl => match us, hl with | [_, _], _ => rfl) fun f cdv A outer s H E I hr =>
    (sv_cons (sv_if (tv_tru (ev_sr (ev_ix (e2_l (pv 0) ev_int)))) (sv_cons (sv_asg (ev_mod (e2_e (by decide) (ev_ix (e2_l (pv 0) ev_int)) (ev_var (pv 1)))) (nio (l := [0]) rfl rfl) sc__law_take.nd rfl (by first | exact .inl rfl | exact .inr rfl))
    (sv_cons (sv_sub (pv 0) ev_int (ev_div (e2_e (by decide) (ev_ix (e2_l (pv 0) ev_int)) (ev_var (pv 1)))))
    (sv_one (sv_ret (ev_var (pv 2)))))) sv_nil)
    (sv_cons (sv_sub (pv 0) ev_int (ev_mod (e2_e (by decide) (ev_add (e2_e (by decide) (ev_mul (e2_e (by decide) (ev_ix (e2_l (pv 0) ev_int)) ev_int)) ev_int)) ev_int)))
    (sv_cons (sv_asg (ev_mod (e2_e (by decide) (ev_add (e2_e (by decide) (ev_add (e2_e (by decide) (ev_mul (e2_e (by decide) (ev_ix (e2_l (pv 0) ev_int)) (ev_ix (e2_l (pv 0) ev_int)))) (ev_mul (e2_e (by decide) ev_int (ev_ix (e2_l (pv 0) ev_int)))))) ev_int)) ev_int)) (nio (l := [0]) rfl rfl) sc__law_take.nd rfl (by first | exact .inl rfl | exact .inr rfl))
    (sv_cons (sv_asg (ev_mod (e2_e (by decide) (ev_add (e2_e (by decide) (ev_mul (e2_e (by decide) (ev_var (pv 3)) (ev_var (pv 3)))) (ev_mul (e2_e (by decide) ev_int (ev_var (pv 3)))))) ev_int)) (nio (l := [0]) rfl rfl) sc__law_take.nd rfl (by first | exact .inl rfl | exact .inr rfl))
    (sv_one (sv_ret (ev_mod (e2_e (by decide) (ev_div (e2_e (by decide) (ev_var (pv 3)) ev_int)) (ev_var (pv 1))))))))))
def n__law_mixed_row : List Str := ["_law_state_here", "_law_things", "_law_left", "_law_found"]
theorem sc__law_mixed_row : FnScope n__law_mixed_row ["_law_state_here", "_law_things"] (defScope (top 44)) := ⟨rfl, rfl, rfl, by decide +kernel, rfl, by decide +kernel, by decide +kernel⟩
theorem ok__law_mixed_row {P : Program} {w : World} {K : PySem.W.Frag} {mg : Str → Option Value} {base : Heap} {T : List (Addr × Str)} {xc : Nat → Value} (A : At K mg "_law_mixed_row" (top 44)) (hB : BN mg) (D__law_take : Def P w K mg base T xc "_law_take" 1 ["_law_state_here", "_law_many"] [.o, .s] .sh f_Ltake) : Def P w K mg base T xc "_law_mixed_row" (2) ["_law_state_here", "_law_things"] [.o, .s] .fr f_Lmixed_row :=
  def_at (k := 1) A sc__law_mixed_row rfl (by decide) (fun _ _ _ _ _ _ us hl => match us, hl with | [_, _], _ => rfl) fun f cdv A outer s H E I hr =>
    (sv_cons (sv_asgO (ev_list rfl hB.n_list (avr_cons (by decide) (ev_var (pv 1)) av_nil)) (nio (l := [0]) rfl rfl) sc__law_mixed_row.nd rfl (by first | exact .inl rfl | exact .inr rfl))
    (sv_cons (sv_asgO (ev_lst av_nil) (nio (l := [0]) rfl rfl) sc__law_mixed_row.nd rfl (by first | exact .inl rfl | exact .inr rfl))
    (sv_cons (sv_wh (passes_of rfl) (tv_cmp (ob_ne hr.units) (e2_l (pv 2) (ev_lst av_nil)) rfl) (sv_one (sv_expr (ev_mut PySem.F.slot_list_append rfl mt_append an_append (pv 3) (av_cons (ev_mut PySem.F.slot_list_pop rfl mt_popAt an_popAt (pv 2) (av_cons (ev_callD D__law_take hr (by omega) rfl (takes_of rfl rfl rfl rfl) (by decide) (mv_o (pv 0) (mv_s (ev_len rfl hB.n_len (avr_late (pv 2) av_nil)) mv_nil))) av_nil)) av_nil)))))
    (sv_one (sv_ret (ev_mv (pv 3) (nio (l := [0]) rfl rfl)))))))
def n__law_closed : List Str := ["_law_pairs", "_law_found", "_law_later", "_law_a", "_law_b", "_law_c", "_law_d"]
theorem sc__law_closed : FnScope n__law_closed ["_law_pairs"] (defScope (top 45)) := ⟨rfl, rfl, rfl, by decide +kernel, rfl, by decide +kernel, by decide +kernel⟩
theorem ok__law_closed {P : Program} {w : World} {K : PySem.W.Frag} {mg : Str → Option Value} {base : Heap} {T : List (Addr × Str)} {xc : Nat → Value} (A : At K mg "_law_closed" (top 45)) (hB : BN mg) : Def P w K mg base T xc "_law_closed" (1) ["_law_pairs"] [.s] .sh f_Lclosed :=
  def_at (k := 0) A sc__law_closed rfl (by decide) (fun _ _ _ _ _ _ us hl => match us, hl with | [_], _ => rfl) fun f cdv A outer s H E I hr =>
    (sv_cons (sv_asg (ev_fs (ev_sortSetW rfl hr.units rfl hB.n_sorted rfl hB.n_set (avr_cons (by decide) (ev_var (pv 0)) av_nil))) (nio (l := []) rfl rfl) sc__law_closed.nd rfl (by first | exact .inl rfl | exact .inr rfl))
    (sv_one (sv_wh (passes_of rfl) (tv_val ev_bl) (svs_W (nios (l := []) rfl rfl) (sv_cons (sv_asgO (ev_list rfl hB.n_list (avr_cons (by decide) (ev_var (pv 1)) av_nil)) (nio (l := []) rfl rfl) sc__law_closed.nd rfl (by first | exact .inl rfl | exact .inr rfl))
    (sv_cons (sv_for (passes_of rfl) rfl (iv_seq (ev_var (pv 1))) (gv_t rfl (pgs_cons (pg_name (i := 3) sc__law_closed.nd rfl (by first | exact .inl rfl | exact .inr rfl)) (pgs_cons (pg_name (i := 4) sc__law_closed.nd rfl (by first | exact .inl rfl | exact .inr rfl)) pgs_nil))) (nios (l := []) rfl rfl) (svs_W (nios (l := []) rfl rfl) (sv_one (sv_expr (ev_mut PySem.F.slot_list_extend rfl mt_extend an_extend (pv 2) (avr_cons (by decide) (ev_lc [5, 6] rfl rfl sc__law_closed.nd (iv_seq (ev_var (pv 1))) (blkOk_by (own := [("_law_c", 5), ("_law_d", 6)]) (N := n__law_closed) (sc := defScope (top 45)) (by decide +kernel)) (by decide) (nios (l := []) rfl rfl) (fun _ _ _ _ _ => (gv_t rfl (pgs_cons (pg_name (i := 5) sc__law_closed.nd rfl (by first | exact .inl rfl | exact .inr rfl)) (pgs_cons (pg_name (i := 6) sc__law_closed.nd rfl (by first | exact .inl rfl | exact .inr rfl)) pgs_nil)))) (fun _ _ _ _ _ => (nv_one (tv_cmp (ob_eq hr.units) (e2_e (by decide) (ev_var (pv 4)) (ev_var (pv 5))) rfl))) (fun _ _ _ _ _ => (ev_tup (av_cons (ev_var (pv 3)) (av_cons (ev_var (pv 6)) av_nil))))) av_nil))))))
    (sv_cons (sv_asgO (ev_sortSetW rfl hr.units rfl hB.n_sorted rfl hB.n_set (avr_late (pv 2) av_nil)) (nio (l := []) rfl rfl) sc__law_closed.nd rfl (by first | exact .inl rfl | exact .inr rfl))
    (sv_cons (sv_if (tv_cmp (ob_eq hr.units) (e2_l (pv 2) (ev_var (pv 1))) rfl) (sv_one (sv_ret (ev_var (pv 1)))) sv_nil)
    (sv_one (sv_asg (ev_shr (pv 2) (nio (l := []) rfl rfl)) (nio (l := []) rfl rfl) sc__law_closed.nd rfl (by first | exact .inl rfl | exact .inr rfl)))))))))))
def n__law_order : List Str := ["_law_state_here", "_law_most", "_law_many", "_law_row", "_law_way", "_law_pairs", "_law_marks", "_law_thing", "_law_i", "_law_j", "_law_near"]
theorem sc__law_order : FnScope n__law_order ["_law_state_here", "_law_most"] (defScope (top 46)) := ⟨rfl, rfl, rfl, by decide +kernel, rfl, by decide +kernel, by decide +kernel⟩
theorem ok__law_order {P : Program} {w : World} {K : PySem.W.Frag} {mg : Str → Option Value} {base : Heap} {T : List (Addr × Str)} {xc : Nat → Value} (A : At K mg "_law_order" (top 46)) (hB : BN mg) (D__law_take : Def P w K mg base T xc "_law_take" 1 ["_law_state_here", "_law_many"] [.o, .s] .sh f_Ltake) (D__law_mixed_row : Def P w K mg base T xc "_law_mixed_row" 2 ["_law_state_here", "_law_things"] [.o, .s] .fr f_Lmixed_row) (D__law_closed : Def P w K mg base T xc "_law_closed" 1 ["_law_pairs"] [.s] .sh f_Lclosed) : Def P w K mg base T xc "_law_order" (3) ["_law_state_here", "_law_most"] [.o, .s] .sh f_Lorder :=
  def_at (k := 2) A sc__law_order rfl (by decide) (fun _ _ _ _ _ _ us hl => match us, hl with | [_, _], _ => rfl) fun f cdv A outer s H E I hr =>
    (sv_cons (sv_asg (ev_sub (e2_e (by decide) (ev_var (pv 1)) (ev_ix (e2_e (by decide) (ev_lst (av_cons ev_int (av_cons ev_int (av_cons ev_int (av_cons ev_int (av_cons ev_int (av_cons ev_int (av_cons ev_int (av_cons ev_int av_nil))))))))) (ev_callD D__law_take hr (by omega) rfl (takes_of rfl rfl rfl rfl) (by decide) (mv_o (pv 0) (mv_s ev_int mv_nil))))))) (nio (l := [0]) rfl rfl) sc__law_order.nd rfl (by first | exact .inl rfl | exact .inr rfl))
    (sv_cons (sv_asg (ev_max2 rfl rfl hB.n_max (avr_cons (by decide) ev_int (avr_cons (by decide) (ev_var (pv 2)) av_nil))) (nio (l := [0]) rfl rfl) sc__law_order.nd rfl (by first | exact .inl rfl | exact .inr rfl))
    (sv_cons (sv_asg (ev_fs (ev_callD D__law_mixed_row hr (by omega) rfl (takes_of rfl rfl rfl rfl) (by decide) (mv_o (pv 0) (mv_s (ev_fs (ev_lr1 rfl rfl hB.n_list rfl hB.n_range (ev_var (pv 2)))) mv_nil)))) (nio (l := [0]) rfl rfl) sc__law_order.nd rfl (by first | exact .inl rfl | exact .inr rfl))
    (sv_cons (sv_asg (ev_callD D__law_take hr (by omega) rfl (takes_of rfl rfl rfl rfl) (by decide) (mv_o (pv 0) (mv_s ev_int mv_nil))) (nio (l := [0]) rfl rfl) sc__law_order.nd rfl (by first | exact .inl rfl | exact .inr rfl))
    (sv_cons (sv_asgO (ev_lst av_nil) (nio (l := [0]) rfl rfl) sc__law_order.nd rfl (by first | exact .inl rfl | exact .inr rfl))
    (sv_cons (sv_asg (ev_fs (ev_lc [7] rfl rfl sc__law_order.nd (iv_seq (ev_var (pv 3))) (blkOk_by (own := [("_law_thing", 7)]) (N := n__law_order) (sc := defScope (top 46)) (by decide +kernel)) (by decide) (nios (l := [0]) rfl rfl) (fun _ _ _ _ _ => (gv_n sc__law_order.nd rfl (by first | exact .inl rfl | exact .inr rfl))) (fun _ _ _ _ _ => nv_nil) (fun _ _ _ _ _ => (ev_callD D__law_take hr (by omega) rfl LamX.takes0 (by decide) (mv_o (pv 0) (mv_s ev_int mv_nil)))))) (nio (l := [0]) rfl rfl) sc__law_order.nd rfl (by first | exact .inl rfl | exact .inr rfl))
    (sv_cons (sv_for (passes_of rfl) rfl (iv_r1 rfl hB.n_range (avr_cons (by decide) (ev_var (pv 2)) av_nil)) (gv_n sc__law_order.nd rfl (by first | exact .inl rfl | exact .inr rfl)) (nios (l := [0]) rfl rfl) (svs_W (nios (l := [0]) rfl rfl) (sv_one (sv_for (passes_of rfl) rfl (iv_r2 rfl hB.n_range (avr_cons (by decide) (ev_add (e2_e (by decide) (ev_var (pv 8)) ev_int)) (avr_cons (by decide) (ev_var (pv 2)) av_nil))) (gv_n sc__law_order.nd rfl (by first | exact .inl rfl | exact .inr rfl)) (nios (l := [0]) rfl rfl) (svs_W (nios (l := [0]) rfl rfl) (sv_cons (sv_asg (ev_fs (ev_lst (av_cons (ev_cmp (ob_eq hr.units) (e2_e (by decide) (ev_callD D__law_take hr (by omega) rfl (takes_of rfl rfl rfl rfl) (by decide) (mv_o (pv 0) (mv_s ev_int mv_nil))) ev_int) rfl) (av_cons (ev_cmp (ob_eq hr.units) (e2_e (by decide) (ev_callD D__law_take hr (by omega) rfl (takes_of rfl rfl rfl rfl) (by decide) (mv_o (pv 0) (mv_s ev_int mv_nil))) ev_int) rfl) (av_cons (ev_cmp ob_gt (e2_e (by decide) (ev_callD D__law_take hr (by omega) rfl (takes_of rfl rfl rfl rfl) (by decide) (mv_o (pv 0) (mv_s ev_int mv_nil))) ev_int) rfl) av_nil))))) (nio (l := [0]) rfl rfl) sc__law_order.nd rfl (by first | exact .inl rfl | exact .inr rfl))
    (sv_cons (sv_asg (ev_fs (ev_addL (e2_e (by decide) (ev_var (pv 10)) (ev_lst (av_cons (ev_cmp ob_lt (e2_e (by decide) (ev_ix (e2_e (by decide) (ev_var (pv 6)) (ev_var (pv 8)))) (ev_ix (e2_e (by decide) (ev_var (pv 6)) (ev_var (pv 9))))) rfl) (av_cons (ev_cmp (ob_eq hr.units) (e2_e (by decide) (ev_ix (e2_e (by decide) (ev_var (pv 6)) (ev_var (pv 8)))) (ev_ix (e2_e (by decide) (ev_var (pv 6)) (ev_var (pv 9))))) rfl) av_nil)))))) (nio (l := [0]) rfl rfl) sc__law_order.nd rfl (by first | exact .inl rfl | exact .inr rfl))
    (sv_one (sv_if (tv_tru (ev_sr (ev_ix (e2_e (by decide) (ev_var (pv 10)) (ev_var (pv 4)))))) (sv_one (sv_expr (ev_mut PySem.F.slot_list_append rfl mt_append an_append (pv 5) (av_cons (ev_tup (av_cons (ev_ix (e2_e (by decide) (ev_var (pv 3)) (ev_var (pv 8)))) (av_cons (ev_ix (e2_e (by decide) (ev_var (pv 3)) (ev_var (pv 9)))) av_nil))) av_nil)))) sv_nil)))))))))
    (sv_cons (sv_if (tv_cmp (ob_eq hr.units) (e2_e (by decide) (ev_var (pv 4)) ev_int) rfl) (sv_cons (sv_asgO (ev_lst av_nil) (nio (l := [0]) rfl rfl) sc__law_order.nd rfl (by first | exact .inl rfl | exact .inr rfl))
    (sv_one (sv_for (passes_of rfl) rfl (iv_r1 rfl hB.n_range (avr_cons (by decide) (ev_var (pv 2)) av_nil)) (gv_n sc__law_order.nd rfl (by first | exact .inl rfl | exact .inr rfl)) (nios (l := [0]) rfl rfl) (svs_W (nios (l := [0]) rfl rfl) (sv_one (sv_asgO (ev_addL (e2_l (pv 5) (ev_lc [9] rfl rfl sc__law_order.nd (iv_r1 rfl hB.n_range (avr_cons (by decide) (ev_var (pv 2)) av_nil)) (blkOk_by (own := [("_law_j", 9)]) (N := n__law_order) (sc := defScope (top 46)) (by decide +kernel)) (by decide) (nios (l := [0]) rfl rfl) (fun _ _ _ _ _ => (gv_n sc__law_order.nd rfl (by first | exact .inl rfl | exact .inr rfl))) (fun _ _ _ _ _ => (nv_one (tv_cmp ob_lt (e2_e (by decide) (ev_ix (e2_e (by decide) (ev_var (pv 6)) (ev_var (pv 8)))) (ev_ix (e2_e (by decide) (ev_var (pv 6)) (ev_var (pv 9))))) rfl))) (fun _ _ _ _ _ => (ev_tup (av_cons (ev_var (pv 8)) (av_cons (ev_var (pv 9)) av_nil))))))) (nio (l := [0]) rfl rfl) sc__law_order.nd rfl (by first | exact .inl rfl | exact .inr rfl))))))) sv_nil)
    (sv_one (sv_ret (ev_tup (av_cons (ev_var (pv 2)) (av_cons (ev_tuple rfl hB.n_tuple (avr_cons (by decide) (ev_callD D__law_closed hr (by omega) rfl (takes_of rfl rfl rfl rfl) (by decide) (mv_s (ev_shr (pv 5) (nio (l := [0]) rfl rfl)) mv_nil)) av_nil)) av_nil)))))))))))))
def n__law_some_row : List Str := ["_law_state_here", "_law_order_here", "_law_found", "_law_turn", "_law_left", "_law_thing", "_law_some", "_law_a", "_law_b"]
theorem sc__law_some_row : FnScope n__law_some_row ["_law_state_here", "_law_order_here"] (defScope (top 47)) := ⟨rfl, rfl, rfl, by decide +kernel, rfl, by decide +kernel, by decide +kernel⟩
theorem ok__law_some_row {P : Program} {w : World} {K : PySem.W.Frag} {mg : Str → Option Value} {base : Heap} {T : List (Addr × Str)} {xc : Nat → Value} (A : At K mg "_law_some_row" (top 47)) (hB : BN mg) (D__law_take : Def P w K mg base T xc "_law_take" 1 ["_law_state_here", "_law_many"] [.o, .s] .sh f_Ltake) : Def P w K mg base T xc "_law_some_row" (2) ["_law_state_here", "_law_order_here"] [.o, .s] .sh f_Lsome_row :=
  def_at (k := 1) A sc__law_some_row rfl (by decide) (fun _ _ _ _ _ _ us hl => match us, hl with | [_, _], _ => rfl) fun f cdv A outer s H E I hr =>
    (sv_cons (sv_asg (ev_tup av_nil) (nio (l := [0]) rfl rfl) sc__law_some_row.nd rfl (by first | exact .inl rfl | exact .inr rfl))
    (sv_cons (sv_for (passes_of rfl) rfl (iv_r1 rfl hB.n_range (avr_cons (by decide) (ev_ix (e2_e (by decide) (ev_var (pv 1)) ev_int)) av_nil)) (gv_n sc__law_some_row.nd rfl (by first | exact .inl rfl | exact .inr rfl)) (nios (l := [0]) rfl rfl) (svs_W (nios (l := [0]) rfl rfl) (sv_cons (sv_lcs [5] rfl rfl sc__law_some_row.nd rfl rfl (nio (l := [0]) rfl rfl) rfl (iv_r1 rfl hB.n_range (avr_cons (by decide) (ev_ix (e2_e (by decide) (ev_var (pv 1)) ev_int)) av_nil)) (blkOk_by (own := [("_law_thing", 5)]) (N := n__law_some_row) (sc := defScope (top 47)) (by decide +kernel)) (by decide) (nios (l := [0]) rfl rfl) (fun _ _ _ _ _ => (gv_n sc__law_some_row.nd rfl (by first | exact .inl rfl | exact .inr rfl))) (fun _ _ _ _ _ => (nv_one (tv_cmp (ob_ni (u65 hr)) (e2_e (by decide) (ev_var (pv 5)) (ev_var (pv 2))) rfl))) (fun _ _ _ _ _ => (ev_var (pv 5))))
    (sv_cons (sv_lcs [5] rfl rfl sc__law_some_row.nd rfl rfl (nio (l := [0]) rfl rfl) rfl (iv_seq (ev_var (pv 4))) (blkOk_by (own := [("_law_thing", 5)]) (N := n__law_some_row) (sc := defScope (top 47)) (by decide +kernel)) (by decide) (nios (l := [0]) rfl rfl) (fun _ _ _ _ _ => (gv_n sc__law_some_row.nd rfl (by first | exact .inl rfl | exact .inr rfl))) (fun _ _ _ _ _ => (nv_one (tv_cmp (ob_eq hr.units) (e2_e (by decide) (ev_lc [7, 8] rfl rfl sc__law_some_row.nd (iv_seq (ev_ix (e2_e (by decide) (ev_var (pv 1)) ev_int))) (blkOk_by (own := [("_law_a", 7), ("_law_b", 8)]) (N := n__law_some_row) (by kernel_rfl)) (by decide) (nios (l := [0]) rfl rfl) (fun _ _ _ _ _ => (gv_t rfl (pgs_cons (pg_name (i := 7) sc__law_some_row.nd rfl (by first | exact .inl rfl | exact .inr rfl)) (pgs_cons (pg_name (i := 8) sc__law_some_row.nd rfl (by first | exact .inl rfl | exact .inr rfl)) pgs_nil)))) (fun _ _ _ _ _ => (nv_one (tv_w (wv_and (tv_cmp (ob_eq hr.units) (e2_e (by decide) (ev_var (pv 8)) (ev_var (pv 5))) rfl) (wv_and1 (tv_cmp (ob_ni (u65 hr)) (e2_e (by decide) (ev_var (pv 7)) (ev_var (pv 2))) rfl)))))) (fun _ _ _ _ _ => (ev_var (pv 7)))) (ev_lst av_nil)) rfl))) (fun _ _ _ _ _ => (ev_var (pv 5))))
    (sv_one (sv_asg (ev_add (e2_e (by decide) (ev_var (pv 2)) (ev_tup (av_cons (ev_ix (e2_e (by decide) (ev_var (pv 6)) (ev_callD D__law_take hr (by omega) rfl (takes_of rfl rfl rfl rfl) (by decide) (mv_o (pv 0) (mv_s (ev_len rfl hB.n_len (avr_cons (by decide) (ev_var (pv 6)) av_nil)) mv_nil))))) av_nil)))) (nio (l := [0]) rfl rfl) sc__law_some_row.nd rfl (by first | exact .inl rfl | exact .inr rfl)))))))
    (sv_one (sv_ret (ev_var (pv 2))))))
def n__law_right : List Str := ["_law_state_here", "_law_order_here", "_law_least", "_law_best", "_law_tally", "_law_row", "_law_turn", "_law_other"]
theorem sc__law_right : FnScope n__law_right ["_law_state_here", "_law_order_here"] (defScope (top 48)) := ⟨rfl, rfl, rfl, by decide +kernel, rfl, by decide +kernel, by decide +kernel⟩
theorem ok__law_right {P : Program} {w : World} {K : PySem.W.Frag} {mg : Str → Option Value} {base : Heap} {T : List (Addr × Str)} {xc : Nat → Value} (A : At K mg "_law_right" (top 48)) (hB : BN mg) (D_loose_pairs : Def P w K mg base T xc "loose_pairs" 6 ["order"] [.s] .fr f_loose_pairs) (D_turned : Def P w K mg base T xc "turned" 6 ["order"] [.s] .sh f_turned) (D_is_row : Def P w K mg base T xc "is_row" 6 ["order", "thing"] [.s, .s] .sh f_is_row) (D_rows_many : Def P w K mg base T xc "rows_many" 6 ["order"] [.s] .sh f_rows_many) (D_span_of : Def P w K mg base T xc "span_of" 6 ["order", "row"] [.s, .s] .sh f_span_of) (D_farthest : Def P w K mg base T xc "farthest" 6 ["order", "row"] [.s, .s] .sh f_farthest) (D_least_span : Def P w K mg base T xc "least_span" 6 ["order"] [.s] .sh f_least_span) (D_spans : Def P w K mg base T xc "spans" 6 ["order"] [.s] .fr f_spans) (D_best_rows : Def P w K mg base T xc "best_rows" 6 ["order"] [.s] .fr f_best_rows) (D_first_best : Def P w K mg base T xc "first_best" 6 ["order"] [.s] .sh f_first_best) (D__law_some_row : Def P w K mg base T xc "_law_some_row" 2 ["_law_state_here", "_law_order_here"] [.o, .s] .sh f_Lsome_row) : Def P w K mg base T xc "_law_right" (7) ["_law_state_here", "_law_order_here"] [.o, .s] .sh f_Lright6 :=
  def_at (k := 6) A sc__law_right rfl (by decide) (fun _ _ _ _ _ _ us hl => match us, hl with | [_, _], _ => rfl) fun f cdv A outer s H E I hr =>
    (sv_cons (sv_tup (ev_tup (av_cons (ev_callD D_least_span hr (by omega) rfl (takes_of rfl rfl rfl rfl) (by decide) (mv_s (ev_var (pv 1)) mv_nil)) (av_cons (ev_fs (ev_callD D_best_rows hr (by omega) rfl (takes_of rfl rfl rfl rfl) (by decide) (mv_s (ev_var (pv 1)) mv_nil))) (av_cons (ev_fs (ev_callD D_spans hr (by omega) rfl (takes_of rfl rfl rfl rfl) (by decide) (mv_s (ev_var (pv 1)) mv_nil))) av_nil)))) (gv_t rfl (pgs_cons (pg_name (i := 2) sc__law_right.nd rfl (by first | exact .inl rfl | exact .inr rfl)) (pgs_cons (pg_name (i := 3) sc__law_right.nd rfl (by first | exact .inl rfl | exact .inr rfl)) (pgs_cons (pg_name (i := 4) sc__law_right.nd rfl (by first | exact .inl rfl | exact .inr rfl)) pgs_nil)))) (nios (l := [0]) rfl rfl))
    (sv_cons (sv_if (tv_w (wv_or (tv_cmp (ob_ne hr.units) (e2_e (by decide) (ev_var (pv 3)) (ev_sortSetB rfl hr.units rfl hB.n_sorted rfl hB.n_set (avr_cons (by decide) (ev_var (pv 3)) av_nil))) rfl) (wv_or (tv_cmp (ob_ne hr.units) (e2_e (by decide) (ev_callD D_first_best hr (by omega) rfl (takes_of rfl rfl rfl rfl) (by decide) (mv_s (ev_var (pv 1)) mv_nil)) (ev_ix (e2_e (by decide) (ev_var (pv 3)) ev_int))) rfl) (wv_or1 (tv_cmp (ob_ne hr.units) (e2_e (by decide) (ev_len rfl hB.n_len (avr_cons (by decide) (ev_var (pv 3)) av_nil)) (ev_ix (e2_e (by decide) (ev_var (pv 4)) (ev_var (pv 2))))) rfl))))) (sv_one (sv_ret ev_bl)) sv_nil)
    (sv_cons (sv_if (tv_cmp (ob_ne hr.units) (e2_e (by decide) (ev_lc [5] rfl rfl sc__law_right.nd (iv_seq (ev_var (pv 3))) (blkOk_by (own := [("_law_row", 5)]) (N := n__law_right) (sc := defScope (top 48)) (by decide +kernel)) (by decide) (nios (l := [0]) rfl rfl) (fun _ _ _ _ _ => (gv_n sc__law_right.nd rfl (by first | exact .inl rfl | exact .inr rfl))) (fun _ _ _ _ _ => (nv_one (tv_w (wv_or (tv_not (tv_val (ev_callD D_is_row hr (by omega) rfl LamX.takes0 (by decide) (mv_s (ev_var (pv 1)) (mv_s (ev_var (pv 5)) mv_nil))))) (wv_or1 (tv_cmp (ob_ne hr.units) (e2_e (by decide) (ev_callD D_span_of hr (by omega) rfl LamX.takes0 (by decide) (mv_s (ev_var (pv 1)) (mv_s (ev_var (pv 5)) mv_nil))) (ev_var (pv 2))) rfl)))))) (fun _ _ _ _ _ => (ev_var (pv 5)))) (ev_lst av_nil)) rfl) (sv_one (sv_ret ev_bl)) sv_nil)
    (sv_cons (sv_if (tv_w (wv_or (tv_cmp (ob_ne hr.units) (e2_e (by decide) (ev_sum rfl rfl hB.n_sum (avr_cons (by decide) (ev_var (pv 4)) av_nil)) (ev_callD D_rows_many hr (by omega) rfl (takes_of rfl rfl rfl rfl) (by decide) (mv_s (ev_var (pv 1)) mv_nil))) rfl) (wv_or (tv_cmp (ob_ne hr.units) (e2_e (by decide) (ev_sl slk_v (ev_var (pv 4)) bv_no (bv_at (ev_var (pv 2)))) (ev_mulL (e2_e (by decide) (ev_lst (av_cons ev_int av_nil)) (ev_var (pv 2))))) rfl) (wv_or1 (tv_cmp (ob_eq hr.units) (e2_e (by decide) (ev_ix (e2_e (by decide) (ev_var (pv 4)) (ev_neg ev_int))) ev_int) rfl))))) (sv_one (sv_ret ev_bl)) sv_nil)
    (sv_cons (sv_for (passes_of rfl) rfl (iv_r1 rfl hB.n_range (avr_cons (by decide) ev_int av_nil)) (gv_n sc__law_right.nd rfl (by first | exact .inl rfl | exact .inr rfl)) (nios (l := [0]) rfl rfl) (svs_W (nios (l := [0]) rfl rfl) (sv_one (sv_if (tv_cmp ob_lt (e2_e (by decide) (ev_callD D_span_of hr (by omega) rfl (takes_of rfl rfl rfl rfl) (by decide) (mv_s (ev_var (pv 1)) (mv_s (ev_callD D__law_some_row hr (by omega) rfl (takes_of rfl rfl rfl rfl) (by decide) (mv_o (pv 0) (mv_s (ev_var (pv 1)) mv_nil))) mv_nil))) (ev_var (pv 2))) rfl) (sv_one (sv_ret ev_bl)) sv_nil))))
    (sv_cons (sv_asg (ev_callD D_turned hr (by omega) rfl (takes_of rfl rfl rfl rfl) (by decide) (mv_s (ev_var (pv 1)) mv_nil)) (nio (l := [0]) rfl rfl) sc__law_right.nd rfl (by first | exact .inl rfl | exact .inr rfl))
    (sv_cons (sv_if (tv_w (wv_or (tv_cmp (ob_ne hr.units) (e2_e (by decide) (ev_callD D_best_rows hr (by omega) rfl (takes_of rfl rfl rfl rfl) (by decide) (mv_s (ev_var (pv 7)) mv_nil)) (ev_sortDat hr.units rfl hB.n_sorted (avr_cons (by decide) (ev_lc [5] rfl rfl sc__law_right.nd (iv_seq (ev_var (pv 3))) (blkOk_by (own := [("_law_row", 5)]) (N := n__law_right) (sc := defScope (top 48)) (by decide +kernel)) (by decide) (nios (l := [0]) rfl rfl) (fun _ _ _ _ _ => (gv_n sc__law_right.nd rfl (by first | exact .inl rfl | exact .inr rfl))) (fun _ _ _ _ _ => nv_nil) (fun _ _ _ _ _ => (ev_revT (ev_var (pv 5)) (.inl rfl)))) av_nil))) rfl) (wv_or1 (tv_cmp (ob_ne hr.units) (e2_e (by decide) (ev_callD D_least_span hr (by omega) rfl (takes_of rfl rfl rfl rfl) (by decide) (mv_s (ev_var (pv 7)) mv_nil)) (ev_var (pv 2))) rfl)))) (sv_one (sv_ret ev_bl)) sv_nil)
    (sv_one (sv_ret (ev_and (ev_cmp (ob_eq hr.units) (e2_e (by decide) (ev_cmp (ob_eq hr.units) (e2_e (by decide) (ev_callD D_loose_pairs hr (by omega) rfl (takes_of rfl rfl rfl rfl) (by decide) (mv_s (ev_var (pv 1)) mv_nil)) (ev_lst av_nil)) rfl) (ev_cmp (ob_eq hr.units) (e2_e (by decide) (ev_var (pv 2)) ev_int) rfl)) rfl) (ev_one (ev_cmp (ob_eq hr.units) (e2_e (by decide) (ev_cmp ob_is (e2_e (by decide) (ev_callD D_farthest hr (by omega) rfl (takes_of rfl rfl rfl rfl) (by decide) (mv_s (ev_var (pv 1)) (mv_s (ev_ix (e2_e (by decide) (ev_var (pv 3)) ev_int)) mv_nil))) ev_non) rfl) (ev_cmp (ob_eq hr.units) (e2_e (by decide) (ev_var (pv 2)) ev_int) rfl)) rfl))))))))))))
def n_law : List Str := ["_law_script", "_law_k", "_law_state_here", "_law_order_here", "_law_pairs", "_law_row", "_law_a", "_law_b"]
theorem sc_law : FnScope n_law ["_law_script"] (defScope (top 49)) := ⟨rfl, rfl, rfl, by decide +kernel, rfl, by decide +kernel, by decide +kernel⟩
def s_law_b0 : En → SR :=
  (sSeq (sAsgO 2 (eFun f_Lstate [] (aCons (eVar 0) (aCons (eVar 1) aNil))))
    (sSeq (sAsg 3 (eFun f_Lorder [2] (aIo 2 (aCons (eC (.int 6)) aNil))))
    (sSeq (sIf (bNot (bVal (eFun f_Lright6 [2] (aIo 2 (aCons (eVar 3) aNil))))) (sRet (eC (.bool false))) sNil)
    (sSeq (sAsg 4 (eFun f_loose_pairs [] (aCons (eVar 3) aNil)))
    (sIf (bCmp neP (pE (eVar 4) (eLst aNil))) (sSeq (sAsg 5 (eFun f_first_best [] (aCons (eVar 3) aNil)))
    (sSeq (sTup [6, 7] (eOp idxV (pE (eVar 4) (eFun f_Ltake [2] (aIo 2 (aCons (eCal lenV (aCons (eVar 4) aNil)) aNil))))))
    (sSeq (sIf (bCmp gtP (pE (eMeth indexV (eVar 5) (aCons (eVar 6) aNil)) (eMeth indexV (eVar 5) (aCons (eVar 7) aNil)))) (sPar 6 7 (aCons (eVar 7) (aCons (eVar 6) aNil))) sNil)
    (sIf (bCmp gtP (pE (eFun f_least_span [] (aCons (eFun f_order_of [] (aCons (eOp idxV (pE (eVar 3) (eC (.int 0)))) (aCons (eOp addL (pE (eCal listV (aCons (eOp idxV (pE (eVar 3) (eC (.int 1)))) aNil)) (eLst (aCons (eTup (aCons (eVar 6) (aCons (eVar 7) aNil))) aNil)))) aNil))) aNil)) (eFun f_least_span [] (aCons (eVar 3) aNil)))) (sRet (eC (.bool false))) sNil)))) sNil)))))
def s_law_l1 : En → SR :=
  (sFor (.n 1) (iR1 (aCons (eCal max2V (aCons (eC (.int 1)) (aCons (eCal min2V (aCons (eCal lenV (aCons (eVar 0) aNil)) (aCons (eC (.int 3)) aNil))) aNil))) aNil)) (sW [1, 2, 3, 4, 5, 6, 7] s_law_b0))
def s_law : En → SR :=
  (sSeq s_law_l1
    (sRet (eC (.bool true))))
def f_law : List PV → FR := runF' .sh 8 [.s] s_law
theorem f_law_eq (x0 : PV) : f_law [x0] = finF .sh [] (s_law [some (.s x0), none, none, none, none, none, none, none]) := runF_fin _ _ _ s_law _
theorem ok_law {P : Program} {w : World} {K : PySem.W.Frag} {mg : Str → Option Value} {base : Heap} {T : List (Addr × Str)} {xc : Nat → Value} (A : At K mg "law" (top 49)) (hB : BN mg) (D_order_of : Def P w K mg base T xc "order_of" 4 ["many", "pairs"] [.s, .s] .sh f_order_of) (D_loose_pairs : Def P w K mg base T xc "loose_pairs" 6 ["order"] [.s] .fr f_loose_pairs) (D_least_span : Def P w K mg base T xc "least_span" 6 ["order"] [.s] .sh f_least_span) (D_first_best : Def P w K mg base T xc "first_best" 6 ["order"] [.s] .sh f_first_best) (D__law_state : Def P w K mg base T xc "_law_state" 2 ["_law_script", "_law_k"] [.s, .s] .fr f_Lstate) (D__law_take : Def P w K mg base T xc "_law_take" 1 ["_law_state_here", "_law_many"] [.o, .s] .sh f_Ltake) (D__law_order : Def P w K mg base T xc "_law_order" 3 ["_law_state_here", "_law_most"] [.o, .s] .sh f_Lorder) (D__law_right : Def P w K mg base T xc "_law_right" 7 ["_law_state_here", "_law_order_here"] [.o, .s] .sh f_Lright6) : Def P w K mg base T xc "law" (8) ["_law_script"] [.s] .sh f_law :=
  def_at (k := 7) A sc_law rfl (by decide) (fun _ _ _ _ _ _ us hl => match us, hl with | [_], _ => rfl) fun f cdv A outer s H E I hr =>
    (sv_cons (sv_for (passes_of rfl) rfl (iv_r1 rfl hB.n_range (avr_cons (by decide) (ev_max2 rfl rfl hB.n_max (avr_cons (by decide) ev_int (avr_cons (by decide) (ev_min2 rfl rfl hB.n_min (avr_cons (by decide) (ev_len rfl hB.n_len (avr_cons (by decide) (ev_var (pv 0)) av_nil)) (avr_cons (by decide) ev_int av_nil))) av_nil))) av_nil)) (gv_n sc_law.nd rfl (by first | exact .inl rfl | exact .inr rfl)) (nios (l := []) rfl rfl) (svs_W (nios (l := []) rfl rfl) (sv_cons (sv_asgO (ev_callD D__law_state hr (by omega) rfl (takes_of rfl rfl rfl rfl) (by decide) (mv_s (ev_var (pv 0)) (mv_s (ev_var (pv 1)) mv_nil))) (nio (l := []) rfl rfl) sc_law.nd rfl (by first | exact .inl rfl | exact .inr rfl))
    (sv_cons (sv_asg (ev_callD D__law_order hr (by omega) rfl (takes_of rfl rfl rfl rfl) (by decide) (mv_o (pv 2) (mv_s ev_int mv_nil))) (nio (l := []) rfl rfl) sc_law.nd rfl (by first | exact .inl rfl | exact .inr rfl))
    (sv_cons (sv_if (tv_not (tv_val (ev_callD D__law_right hr (by omega) rfl (takes_of rfl rfl rfl rfl) (by decide) (mv_o (pv 2) (mv_s (ev_var (pv 3)) mv_nil))))) (sv_one (sv_ret ev_bl)) sv_nil)
    (sv_cons (sv_asg (ev_fs (ev_callD D_loose_pairs hr (by omega) rfl (takes_of rfl rfl rfl rfl) (by decide) (mv_s (ev_var (pv 3)) mv_nil))) (nio (l := []) rfl rfl) sc_law.nd rfl (by first | exact .inl rfl | exact .inr rfl))
    (sv_one (sv_if (tv_cmp (ob_ne hr.units) (e2_e (by decide) (ev_var (pv 4)) (ev_lst av_nil)) rfl) (sv_cons (sv_asg (ev_callD D_first_best hr (by omega) rfl (takes_of rfl rfl rfl rfl) (by decide) (mv_s (ev_var (pv 3)) mv_nil)) (nio (l := []) rfl rfl) sc_law.nd rfl (by first | exact .inl rfl | exact .inr rfl))
    (sv_cons (sv_tup (ev_ix (e2_e (by decide) (ev_var (pv 4)) (ev_callD D__law_take hr (by omega) rfl (takes_of rfl rfl rfl rfl) (by decide) (mv_o (pv 2) (mv_s (ev_len rfl hB.n_len (avr_cons (by decide) (ev_var (pv 4)) av_nil)) mv_nil))))) (gv_t rfl (pgs_cons (pg_name (i := 6) sc_law.nd rfl (by first | exact .inl rfl | exact .inr rfl)) (pgs_cons (pg_name (i := 7) sc_law.nd rfl (by first | exact .inl rfl | exact .inr rfl)) pgs_nil))) (nios (l := []) rfl rfl))
    (sv_cons (sv_if (tv_cmp ob_gt (e2_e (by decide) (ev_index (ev_var (pv 5)) (av_cons (ev_var (pv 6)) av_nil)) (ev_index (ev_var (pv 5)) (av_cons (ev_var (pv 7)) av_nil))) rfl) (sv_one (sv_par rfl sc_law.nd rfl rfl (by decide) rfl rfl (nio (l := []) rfl rfl) (nio (l := []) rfl rfl) (av_cons (ev_var (pv 7)) (av_cons (ev_var (pv 6)) av_nil)))) sv_nil)
    (sv_one (sv_if (tv_cmp ob_gt (e2_e (by decide) (ev_callD D_least_span hr (by omega) rfl (takes_of rfl rfl rfl rfl) (by decide) (mv_s (ev_callD D_order_of hr (by omega) rfl (takes_of rfl rfl rfl rfl) (by decide) (mv_s (ev_ix (e2_e (by decide) (ev_var (pv 3)) ev_int)) (mv_s (ev_fs (ev_addL (e2_e (by decide) (ev_list rfl hB.n_list (avr_cons (by decide) (ev_ix (e2_e (by decide) (ev_var (pv 3)) ev_int)) av_nil)) (ev_lst (av_cons (ev_tup (av_cons (ev_var (pv 6)) (av_cons (ev_var (pv 7)) av_nil))) av_nil))))) mv_nil))) mv_nil)) (ev_callD D_least_span hr (by omega) rfl (takes_of rfl rfl rfl rfl) (by decide) (mv_s (ev_var (pv 3)) mv_nil))) rfl) (sv_one (sv_ret ev_bl)) sv_nil))))) sv_nil))))))))
    (sv_one (sv_ret ev_bl)))
end K07
namespace Fn
open PySem PySem.Spec PyProof.Rows L2 Fx
abbrev Pr := Int × Int
def P (p : Pr) : PV := .tuple [.int p.1, .int p.2]
def ordV (n : Nat) (ps : List Pr) : PV := .tuple [.int n, .tuple (ps.map P)]
def rng (n : Nat) : List Int := (List.range n).map fun i : Nat => (i : Int)
theorem upTo_rng (n : Nat) : Fx.upTo 0 n = (rng n).map PyData.int := by unfold Fx.upTo rng; simp
theorem mem_rng {n : Nat} {i : Int} : i ∈ rng n ↔ 0 ≤ i ∧ i < n := by
  unfold rng
  rw [List.mem_map]
  constructor
  · rintro ⟨k, hk, rfl⟩; have := List.mem_range.mp hk; omega
  · rintro ⟨h0, h1⟩; exact ⟨i.toNat, List.mem_range.mpr (by omega), by omega⟩
@[simp] theorem rng_length (n : Nat) : (rng n).length = n := by simp [rng]
theorem rng_rise (n : Nat) : (rng n).Pairwise (· < ·) := by
  unfold rng
  rw [List.pairwise_map]
  exact List.pairwise_lt_range.imp fun h => by omega
theorem rng_nodup (n : Nat) : (rng n).Nodup := (rng_rise n).imp fun h => by omega
theorem upTo_from (a : Int) (n : Nat) : Fx.upTo a n = ((List.range n).map fun i : Nat => a + (i : Int)).map PyData.int := by unfold Fx.upTo; simp
def turn (tg : Tg) (g : En → SR) (x : PV) (ρ : En) : SR := match tg.put x ρ with
  | none => .bad
  | some ρ1 => match g ρ1 with | .ct ρ2 => .nx ρ2 | r => r
theorem forL_cons {tg : Tg} {g : En → SR} {x : PV} {xs : List PV} {ρ : En} : forL tg g (x :: xs) ρ = match turn tg g x ρ with | .nx ρ2 => forL tg g xs ρ2 | .bk ρ2 => .nx ρ2 | r => r := by
  unfold turn
  rw [forL]
  cases tg.put x ρ with
  | none => rfl
  | some ρ1 => cases hg : g ρ1 <;> simp [hg]
section
variable {α β : Type} {tg : Tg} {g : En → SR}
theorem forL_fold (enc : α → PV) (st : β → En) (step : β → α → β) : ∀ (xs : List α) (b : β), (∀ a ∈ xs, ∀ b, turn tg g (enc a) (st b) = .nx (st (step b a))) → forL tg g (xs.map enc) (st b) = .nx (st (xs.foldl step b))
  | [], b, _ => rfl
  | x :: xs, b, h => by
    rw [List.map_cons, forL_cons, h x List.mem_cons_self b]
    exact forL_fold enc st step xs _ fun a ha => h a (List.mem_cons_of_mem _ ha)
theorem forL_foldI (I : β → Prop) (enc : α → PV) (st : β → En) (step : β → α → β) : ∀ (xs : List α) (b : β), I b → (∀ a ∈ xs, ∀ b, I b → turn tg g (enc a) (st b) = .nx (st (step b a)) ∧ I (step b a)) → forL tg g (xs.map enc) (st b) = .nx (st (xs.foldl step b)) ∧ I (xs.foldl step b)
  | [], b, i, _ => ⟨rfl, i⟩
  | x :: xs, b, i, h => by
    obtain ⟨h1, h2⟩ := h x List.mem_cons_self b i
    rw [List.map_cons, forL_cons, h1]
    exact forL_foldI I enc st step xs _ h2 fun a ha => h a (List.mem_cons_of_mem _ ha)
theorem forL_same (enc : α → PV) {ρ : En} (xs : List α) (h : ∀ a ∈ xs, turn tg g (enc a) ρ = .nx ρ) : forL tg g (xs.map enc) ρ = .nx ρ :=
  forL_fold enc (fun _ : Unit => ρ) (fun b _ => b) xs () fun a ha _ => h a ha
theorem forL_find (enc : α → PV) (p : α → Bool) (v : α → PV) (r : α → En) {ρ : En} : ∀ (xs : List α), (∀ a ∈ xs, turn tg g (enc a) ρ = if p a then .ret (v a) (r a) else .nx ρ) → forL tg g (xs.map enc) ρ = match xs.find? p with | some a => .ret (v a) (r a) | none => .nx ρ
  | [], _ => rfl
  | x :: xs, h => by
    rw [List.map_cons, forL_cons, h x List.mem_cons_self, List.find?_cons]
    cases hp : p x with
    | true => rfl
    | false => exact forL_find enc p v r xs fun a ha => h a (List.mem_cons_of_mem _ ha)
end
def lcT (tg : Tg) (vs : List Nat) (gt : En → RE Bool) (fe : En → RE PV) (x : PV) (ρ : En) : RE (Option PV) := match tg.put x ρ with
  | none => .bad
  | some ρ1 => match gt ρ1 with
    | .ok true ρ2 => (match fe ρ2 with | .ok v ρ3 => .ok (some v) (wipeE ρ3 vs) | _ => .bad)
    | .ok false ρ2 => .ok none (wipeE ρ2 vs)
    | _ => .bad
section
variable {α β : Type} {tg : Tg} {vs : List Nat} {gt : En → RE Bool} {fe : En → RE PV} {it : En → RE (List PV)}
theorem lcL_cons {x : PV} {xs : List PV} {ρ : En} : lcL tg vs gt fe (x :: xs) ρ = match lcT tg vs gt fe x ρ with
    | .ok o ρ1 => (match lcL tg vs gt fe xs ρ1 with | .ok ws ρ2 => .ok (o.toList ++ ws) ρ2 | _ => .bad)
    | _ => .bad := by
  unfold lcT
  rw [lcL]
  cases hp : tg.put x ρ with
  | none => rfl
  | some ρ1 =>
    simp only
    cases hg : gt ρ1 with
    | ok b ρ2 =>
      cases b with
      | true =>
        simp only
        cases hf : fe ρ2 with
        | ok v ρ3 => simp only; cases lcL tg vs gt fe xs (wipeE ρ3 vs) <;> rfl
        | exc c ρ3 => rfl
        | bad => rfl
      | false =>
        simp only
        cases hl : lcL tg vs gt fe xs (wipeE ρ2 vs) with
        | ok ws ρ3 => simp
        | exc c ρ3 =>
          exfalso
          have : ∀ (xs : List PV) (ρ ρ' : En) (c : Nat), lcL tg vs gt fe xs ρ ≠ .exc c ρ' := by
            intro xs
            induction xs with
            | nil => intro ρ ρ' c h; cases h
            | cons x xs ih =>
              intro ρ ρ' c h
              rw [lcL] at h
              split at h
              · cases h
              · split at h
                · split at h
                  · split at h <;> cases h
                  · cases h
                · exact ih _ _ _ h
                · cases h
          exact this _ _ _ _ hl
        | bad => rfl
    | exc c ρ2 => rfl
    | bad => rfl
theorem lcL_pure (enc : α → PV) (r : α → Option PV) {ρ : En} : ∀ (xs : List α), (∀ a ∈ xs, lcT tg vs gt fe (enc a) ρ = .ok (r a) ρ) → lcL tg vs gt fe (xs.map enc) ρ = .ok (xs.filterMap r) ρ
  | [], _ => rfl
  | x :: xs, h => by
    rw [List.map_cons, lcL_cons, h x List.mem_cons_self]
    simp only
    rw [lcL_pure enc r xs fun a ha => h a (List.mem_cons_of_mem _ ha), List.filterMap_cons]
    cases r x <;> rfl
theorem eLC_pure (enc : α → PV) (r : α → Option PV) {xs : List α} {ρ ρ1 ρ2 : En} (hi : it ρ = .ok (xs.map enc) ρ1) (hl : xs.length ≤ 16777216) (h : ∀ a ∈ xs, lcT tg vs gt fe (enc a) (wipeE ρ1 vs) = .ok (r a) (wipeE ρ1 vs)) (h2 : restE ρ1 vs (wipeE ρ1 vs) = ρ2) :
    eLC tg vs it gt fe ρ = .ok (.list (xs.filterMap r)) ρ2 := by
  unfold eLC
  rw [hi]
  simp only
  rw [if_pos (by simpa using hl), lcL_pure enc r xs h]
  simp only [h2]
theorem eLC_map (enc : α → PV) (v : α → PV) {xs : List α} {ρ ρ1 ρ2 : En} (hi : it ρ = .ok (xs.map enc) ρ1) (hl : xs.length ≤ 16777216) (h : ∀ a ∈ xs, lcT tg vs gt fe (enc a) (wipeE ρ1 vs) = .ok (some (v a)) (wipeE ρ1 vs)) (h2 : restE ρ1 vs (wipeE ρ1 vs) = ρ2) :
    eLC tg vs it gt fe ρ = .ok (.list (xs.map v)) ρ2 := by
  rw [eLC_pure enc (fun a => some (v a)) hi hl h h2, List.filterMap_eq_map']
theorem eLC_filt (enc : α → PV) (p : α → Bool) (v : α → PV) {xs : List α} {ρ ρ1 ρ2 : En} (hi : it ρ = .ok (xs.map enc) ρ1) (hl : xs.length ≤ 16777216) (h : ∀ a ∈ xs, lcT tg vs gt fe (enc a) (wipeE ρ1 vs) = .ok (if p a then some (v a) else none) (wipeE ρ1 vs)) (h2 : restE ρ1 vs (wipeE ρ1 vs) = ρ2) :
    eLC tg vs it gt fe ρ = .ok (.list ((xs.filter p).map v)) ρ2 := by
  rw [eLC_pure enc (fun a => if p a then some (v a) else none) hi hl h h2]
  congr 2
  clear hi h hl
  induction xs with
  | nil => rfl
  | cons x xs ih => cases hp : p x <;> simp [List.filterMap_cons, List.filter_cons, hp, ih]
/-- items that are drawn: some list of the like -/
theorem lcL_ex (I : β → Prop) (Q : α → PV → Prop) (enc : α → PV) (st : β → En) : ∀ (xs : List α) (b : β), I b → (∀ a ∈ xs, ∀ b, I b → ∃ v b', I b' ∧ Q a v ∧ lcT tg vs gt fe (enc a) (st b) = .ok (some v) (st b')) → ∃ ws b', I b' ∧ Paired Q xs ws ∧ lcL tg vs gt fe (xs.map enc) (st b) = .ok ws (st b')
  | [], b, i, _ => ⟨[], b, i, .nil, rfl⟩
  | x :: xs, b, i, h => by
    obtain ⟨v, b', h1, h2, h3⟩ := h x List.mem_cons_self b i
    obtain ⟨ws, b2, i2, q2, e2⟩ := lcL_ex I Q enc st xs b' h1 fun a ha => h a (List.mem_cons_of_mem _ ha)
    exact ⟨v :: ws, b2, i2, .cons h2 q2, by rw [List.map_cons, lcL_cons, h3]; simp only; rw [e2]; rfl⟩
theorem eLC_ex (I : β → Prop) (Q : α → PV → Prop) (enc : α → PV) (st : β → En) {xs : List α} {ρ ρ1 : En} {b : β} (hi : it ρ = .ok (xs.map enc) ρ1) (hl : xs.length ≤ 16777216) (hw : wipeE ρ1 vs = st b) (ib : I b) (h : ∀ a ∈ xs, ∀ b, I b → ∃ v b', I b' ∧ Q a v ∧ lcT tg vs gt fe (enc a) (st b) = .ok (some v) (st b')) :
    ∃ ws b', I b' ∧ Paired Q xs ws ∧ eLC tg vs it gt fe ρ = .ok (.list ws) (restE ρ1 vs (st b')) := by
  obtain ⟨ws, b', i, q, e⟩ := lcL_ex I Q enc st xs b ib h
  refine ⟨ws, b', i, q, ?_⟩
  unfold eLC
  rw [hi]
  simp only
  rw [if_pos (by simpa using hl), hw, e]
end
structure EncD {α : Type} [DecidableEq α] (d : Nat) (enc : α → PV) : Prop where
  lay : ∀ a, (enc a).canLay0 = true
  dep : ∀ a, (enc a).depth ≤ d
  eqv : ∀ a b, PyData.eqv (enc a) (enc b) = decide (a = b)
section
variable {α : Type} [DecidableEq α] {d : Nat} {enc : α → PV}
theorem EncD.layAll (h : EncD d enc) : ∀ xs : List α, PyData.canLayAll0 (xs.map enc) = true
  | [] => rfl
  | x :: xs => by simp [PyData.canLayAll0, h.lay, h.layAll xs]
theorem EncD.depAll (h : EncD d enc) : ∀ xs : List α, PyData.depthAll (xs.map enc) ≤ d
  | [] => by simp [PyData.depthAll]
  | x :: xs => by have := h.dep x; have := h.depAll xs; simp [PyData.depthAll]; omega
theorem EncD.eqvAll (h : EncD d enc) : ∀ xs ys : List α, PyData.eqvAll (xs.map enc) (ys.map enc) = decide (xs = ys)
  | [], [] => by simp [PyData.eqvAll]
  | [], y :: ys => by simp [PyData.eqvAll]
  | x :: xs, [] => by simp [PyData.eqvAll]
  | x :: xs, y :: ys => by simp [PyData.eqvAll, h.eqv, h.eqvAll xs ys]
theorem EncD.list (h : EncD d enc) : EncD (d + 1) (fun xs : List α => .list (xs.map enc)) :=
  ⟨fun a => by simp only [PyData.canLay0]; exact h.layAll a, fun a => by have := h.depAll a; simp only [PyData.depth]; omega, fun a b => by simp only [PyData.eqv]; exact h.eqvAll a b⟩
theorem EncD.tup (h : EncD d enc) : EncD (d + 1) (fun xs : List α => .tuple (xs.map enc)) :=
  ⟨fun a => by simp only [PyData.canLay0]; exact h.layAll a, fun a => by have := h.depAll a; simp only [PyData.depth]; omega, fun a b => by simp only [PyData.eqv]; exact h.eqvAll a b⟩
theorem EncD.mono (h : EncD d enc) {e : Nat} (l : d ≤ e) : EncD e enc := ⟨h.lay, fun a => Nat.le_trans (h.dep a) l, h.eqv⟩
theorem EncD.int : EncD 0 PyData.int := ⟨fun _ => rfl, fun _ => Nat.le_refl _, fun a b => by simp [PyData.eqv]; rfl⟩
theorem EncD.pair : EncD 1 P := ⟨fun _ => rfl, fun _ => by simp [P, PyData.depth, PyData.depthAll], fun a b => by
  obtain ⟨a1, a2⟩ := a
  obtain ⟨b1, b2⟩ := b
  simp only [P, PyData.eqv, PyData.eqvAll, Bool.and_true, Prod.mk.injEq]
  by_cases h1 : a1 = b1 <;> by_cases h2 : a2 = b2 <;> simp [h1, h2]⟩
theorem eqP_eqv {v w : PV} (h : eqvOk v w = true) : eqP v w = some (PyData.eqv v w) := by
  unfold eqP
  split
  · simp [PyData.eqv]
  · simp [PyData.eqv]
  · simp [PyData.eqv]
  · rw [if_pos h]
theorem eqP_enc (h : EncD d enc) (l : d ≤ 64) (a b : α) : eqP (enc a) (enc b) = some (decide (a = b)) := by
  rw [eqP_eqv, h.eqv]
  unfold eqvOk
  have := h.dep a
  simp [h.lay]; omega
theorem neP_enc (h : EncD d enc) (l : d ≤ 64) (a b : α) : neP (enc a) (enc b) = some (!decide (a = b)) := by
  unfold neP; rw [eqP_enc h l]; rfl
theorem any_enc (h : EncD d enc) (a : α) (xs : List α) : ((xs.map enc).any fun z => PyData.eqv z (enc a)) = decide (a ∈ xs) := by
  induction xs with
  | nil => simp
  | cons x xs ih =>
    simp only [List.map_cons, List.any_cons, h.eqv, ih, List.mem_cons]
    by_cases e : x = a
    · simp [e]
    · simp [e, Ne.symm e]
theorem inP_list (h : EncD d enc) (l : d ≤ 64) (a : α) (xs : List α) : inP (enc a) (.list (xs.map enc)) = some (decide (a ∈ xs)) := by
  have q : inOk (enc a) (xs.map enc) = true := by have := h.dep a; unfold inOk; simp [h.lay, h.layAll]; omega
  have e : inP (enc a) (.list (xs.map enc)) = if inOk (enc a) (xs.map enc) then some ((xs.map enc).any fun z => PyData.eqv z (enc a)) else none := by unfold inP; rfl
  rw [e, if_pos q, any_enc h]
theorem inP_tup (h : EncD d enc) (l : d ≤ 64) (a : α) (xs : List α) : inP (enc a) (.tuple (xs.map enc)) = some (decide (a ∈ xs)) := by
  have q : inOk (enc a) (xs.map enc) = true := by have := h.dep a; unfold inOk; simp [h.lay, h.layAll]; omega
  have e : inP (enc a) (.tuple (xs.map enc)) = if inOk (enc a) (xs.map enc) then some ((xs.map enc).any fun z => PyData.eqv z (enc a)) else none := by unfold inP; rfl
  rw [e, if_pos q, any_enc h]
end
@[simp] theorem eqP_int (a b : Int) : eqP (.int a) (.int b) = some (decide (a = b)) := by simp [eqP]; rfl
@[simp] theorem neP_int (a b : Int) : neP (.int a) (.int b) = some (!decide (a = b)) := by simp [neP]
@[simp] theorem eqP_pairsL (a b : List Pr) : eqP (.list (a.map P)) (.list (b.map P)) = some (decide (a = b)) := eqP_enc EncD.pair.list (by omega) a b
@[simp] theorem neP_pairsL (a b : List Pr) : neP (.list (a.map P)) (.list (b.map P)) = some (!decide (a = b)) := neP_enc EncD.pair.list (by omega) a b
@[simp] theorem eqP_pairsT (a b : List Pr) : eqP (.tuple (a.map P)) (.tuple (b.map P)) = some (decide (a = b)) := eqP_enc EncD.pair.tup (by omega) a b
@[simp] theorem eqP_intsL (a b : List Int) : eqP (.list (a.map .int)) (.list (b.map .int)) = some (decide (a = b)) := eqP_enc EncD.int.list (by omega) a b
@[simp] theorem neP_intsL (a b : List Int) : neP (.list (a.map .int)) (.list (b.map .int)) = some (!decide (a = b)) := neP_enc EncD.int.list (by omega) a b
@[simp] theorem eqP_intsT (a b : List Int) : eqP (.tuple (a.map .int)) (.tuple (b.map .int)) = some (decide (a = b)) := eqP_enc EncD.int.tup (by omega) a b
@[simp] theorem inP_pairsL (a b : Int) (xs : List Pr) : inP (.tuple [.int a, .int b]) (.list (xs.map P)) = some (decide ((a, b) ∈ xs)) := (inP_list EncD.pair (by omega) (a, b) xs).trans (congrArg some (decide_eq_decide.mpr Iff.rfl))
@[simp] theorem inP_pairsT (a b : Int) (xs : List Pr) : inP (.tuple [.int a, .int b]) (.tuple (xs.map P)) = some (decide ((a, b) ∈ xs)) := (inP_tup EncD.pair (by omega) (a, b) xs).trans (congrArg some (decide_eq_decide.mpr Iff.rfl))
@[simp] theorem niP_pairsL (a b : Int) (xs : List Pr) : niP (.tuple [.int a, .int b]) (.list (xs.map P)) = some (!decide ((a, b) ∈ xs)) := by unfold niP; rw [inP_pairsL]; rfl
@[simp] theorem niP_pairsT (a b : Int) (xs : List Pr) : niP (.tuple [.int a, .int b]) (.tuple (xs.map P)) = some (!decide ((a, b) ∈ xs)) := by unfold niP; rw [inP_pairsT]; rfl
@[simp] theorem inP_intsL (a : Int) (xs : List Int) : inP (.int a) (.list (xs.map .int)) = some (decide (a ∈ xs)) := inP_list EncD.int (by omega) a xs
@[simp] theorem inP_intsT (a : Int) (xs : List Int) : inP (.int a) (.tuple (xs.map .int)) = some (decide (a ∈ xs)) := inP_tup EncD.int (by omega) a xs
@[simp] theorem niP_intsL (a : Int) (xs : List Int) : niP (.int a) (.list (xs.map .int)) = some (!decide (a ∈ xs)) := by unfold niP; rw [inP_intsL]; rfl
@[simp] theorem niP_intsT (a : Int) (xs : List Int) : niP (.int a) (.tuple (xs.map .int)) = some (!decide (a ∈ xs)) := by unfold niP; rw [inP_intsT]; rfl
@[simp] theorem intsOf_map (xs : List Int) : intsOf (xs.map .int) = some xs := by induction xs with | nil => rfl | cons x xs ih => simp [ih]
@[simp] theorem intsOf_mapf {α : Type} (f : α → Int) (xs : List α) : intsOf (xs.map fun a => .int (f a)) = some (xs.map f) := by induction xs with | nil => rfl | cons x xs ih => simp [ih]
@[simp] theorem boolsOf_map (xs : List Bool) : boolsOf (xs.map .bool) = some xs := by induction xs with | nil => rfl | cons x xs ih => simp [ih]
@[simp] theorem boolsOf_mapf {α : Type} (f : α → Bool) (xs : List α) : boolsOf (xs.map fun a => .bool (f a)) = some (xs.map f) := by induction xs with | nil => rfl | cons x xs ih => simp [ih]
@[simp] theorem allV_mapf {α : Type} (f : α → Bool) (xs : List α) : allV [.list (xs.map fun a => .bool (f a))] = some (.bool (xs.all f)) := by simp [allV]
@[simp] theorem anyV_mapf {α : Type} (f : α → Bool) (xs : List α) : anyV [.list (xs.map fun a => .bool (f a))] = some (.bool (xs.any f)) := by simp [anyV]
def keyP (p : Pr) : Int := p.1 * 64 + p.2
def sortP (ps : List Pr) : List Pr := sortK keyP ps
def Rg (n : Nat) (ps : List Pr) : Prop := ∀ p ∈ ps, (0 ≤ p.1 ∧ p.1 < n) ∧ 0 ≤ p.2 ∧ p.2 < n
def pl (p : Pr) : List Int := [p.1, p.2]
theorem rowsP_pairs : ∀ ps : List Pr, rowsP (ps.map P) = some (ps.map pl)
  | [] => rfl
  | p :: ps => by rw [List.map_cons]; unfold P; simp only [rowsP]; rw [show (fun p : Pr => PyData.tuple [.int p.1, .int p.2]) = P from rfl, rowsP_pairs ps]; rfl
theorem insK_map {α β : Type} (f : α → β) (k : β → Int) (x : α) : ∀ l : List α, insK k (f x) (l.map f) = (insK (fun a => k (f a)) x l).map f
  | [] => rfl
  | y :: l => by
    simp only [List.map_cons, insK]
    split
    · rfl
    · rw [insK_map f k x l]; rfl
theorem sortK_map {α β : Type} (f : α → β) (k : β → Int) : ∀ l : List α, sortK k (l.map f) = (sortK (fun a => k (f a)) l).map f
  | [] => rfl
  | x :: l => by simp only [List.map_cons, sortK]; rw [sortK_map f k l, insK_map]
theorem key64_pl (p : Pr) : key64 (pl p) = keyP p := by
  unfold key64 pl keyP
  simp [TS.code]
theorem sortRows (ps : List Pr) : ((sortK key64 (ps.map pl)).map tupP) = (sortP ps).map P := by
  rw [sortK_map, List.map_map]
  have : (fun a => key64 (pl a)) = keyP := funext key64_pl
  rw [this]; rfl
theorem okRows_pairs {n : Nat} {ps : List Pr} (h : Rg n ps) (hn : n ≤ 64) (hl : ps.length < 64) : okRows (ps.map pl) = true := by
  unfold okRows
  simp only [List.length_map, hl, decide_true, Bool.true_and]
  cases ps with
  | nil => rfl
  | cons p ps =>
    simp only [List.map_cons, Bool.and_eq_true, decide_eq_true_eq]
    refine ⟨by simp [pl], ?_⟩
    rw [← List.map_cons (f := pl), List.all_map, List.all_eq_true]
    intro q hq
    have := h q hq
    simp [okRow, pl]; omega
theorem sortA_pairs {n : Nat} {ps : List Pr} (h : Rg n ps) (hn : n ≤ 64) (hl : ps.length < 64) : sortA [.list (ps.map P)] = some (.list ((sortP ps).map P)) := by
  unfold sortA sortV
  cases ps with
  | nil => rfl
  | cons p ps =>
    simp only
    have : intsOf ((p :: ps).map P) = none := by simp [P, intsOf]
    rw [this]
    simp only [rowsP_pairs, Option.bind_some, okRows_pairs h hn hl, if_true, sortRows]
theorem sortP_perm (ps : List Pr) : (sortP ps).Perm ps := sortK_perm _ _
theorem mem_sortP {ps : List Pr} {p : Pr} : p ∈ sortP ps ↔ p ∈ ps := (sortP_perm ps).mem_iff
theorem keyP_inj {n : Nat} {ps : List Pr} (h : Rg n ps) (hn : n ≤ 64) {p q : Pr} (hp : p ∈ ps) (hq : q ∈ ps) (e : keyP p = keyP q) : p = q := by
  have h1 := h p hp
  have h2 := h q hq
  unfold keyP at e
  exact Prod.ext (by omega) (by omega)
/-- rising: each greater than the one ahead -/
def Ris (ps : List Pr) : Prop := ps.Pairwise fun p q => keyP p < keyP q
theorem ris_sortP {n : Nat} {ps : List Pr} (h : Rg n ps) (hn : n ≤ 64) (nd : ps.Nodup) : Ris (sortP ps) := by
  have h1 := sortK_sorted keyP ps
  have h2 : (sortP ps).Nodup := (sortP_perm ps).nodup_iff.mpr nd
  have h3 : (sortP ps).Pairwise fun p q => p ≠ q := h2
  refine (h1.and h3).imp_of_mem fun ha hb hab => ?_
  obtain ⟨le, ne⟩ := hab
  rcases Int.lt_or_eq_of_le le with l | e
  · exact l
  · exact absurd (keyP_inj h hn (mem_sortP.mp ha) (mem_sortP.mp hb) e) ne
theorem Ris.nodup {ps : List Pr} (h : Ris ps) : ps.Nodup := h.imp fun {a b} hab e => by rw [e] at hab; omega
/-- two rising rows of the same pairs -/
theorem ris_ext {ps qs : List Pr} (h1 : Ris ps) (h2 : Ris qs) (h : ∀ p, p ∈ ps ↔ p ∈ qs) : ps = qs := by
  refine rising_unique (f := keyP) ((List.perm_ext_iff_of_nodup h1.nodup h2.nodup).mpr h) (h1.imp fun h => by omega) (h2.imp fun h => by omega) fun a ha b hb e => ?_
  rcases List.pairwise_iff_getElem.mp h1 with hh
  obtain ⟨i, hi, rfl⟩ := List.mem_iff_getElem.mp ha
  obtain ⟨j, hj, rfl⟩ := List.mem_iff_getElem.mp hb
  rcases Nat.lt_trichotomy i j with l | l | l
  · have := hh i j hi hj l; omega
  · subst l; rfl
  · have := hh j i hj hi l; omega
end Fn
namespace Fn
open PySem PySem.Spec PyProof.Rows L2 Fx
end Fn
namespace Fn
open PySem PySem.Spec PyProof.Rows L2 Fx
abbrev Sd := Int × Bool
def stV (s : Sd) : PV := .list [.int s.1, .bool s.2]
def stir1 (a : Int) : Int := (a * 48271 + 29) % 2147483647
def stir2 (s : Int) : Int := (s * s + 39373 * s + 7) % 2147483629
def stir3 (s : Int) : Int := (s * s + 16807 * s) % 2147483587
@[irreducible] def takeR (s : Sd) (m : Int) : Int := if s.2 then s.1 % m else stir3 (stir2 (stir1 s.1)) / 8 % m
@[irreducible] def takeS (s : Sd) (m : Int) : Sd := if s.2 then (s.1 / m, true) else (stir1 s.1, false)
theorem take_eq (s : Sd) (m : Int) (h0 : 0 < m) (h1 : m < 18446744073709551616) : f_Ltake [stV s, .int m] = .ret (.int (takeR s m)) [stV (takeS s m)] := by
  obtain ⟨a, b⟩ := s
  rw [f_Ltake_eq]
  cases b with
  | true => simp [s_Ltake, stV, takeR, takeS, L2.atI, L2.ixN, h0, h1]
  | false =>
    have a1 : -18446744073709551616 < stir1 a ∧ stir1 a < 18446744073709551616 := by unfold stir1; omega
    have a2 : -18446744073709551616 < stir2 (stir1 a) ∧ stir2 (stir1 a) < 18446744073709551616 := by unfold stir2; omega
    have e1 : (a * 48271 + 29) % 2147483647 = stir1 a := rfl
    have e2 : ∀ s : Int, (s * s + 39373 * s + 7) % 2147483629 = stir2 s := fun _ => rfl
    have e3 : ∀ s : Int, (s * s + 16807 * s) % 2147483587 = stir3 s := fun _ => rfl
    simp [s_Ltake, stV, takeR, takeS, L2.atI, L2.ixN, h0, h1, e1, e2, e3, a1, a2]
theorem takeR_bd (s : Sd) {m : Int} (h0 : 0 < m) : 0 ≤ takeR s m ∧ takeR s m < m := by
  unfold takeR
  split
  · exact ⟨Int.emod_nonneg _ (by omega), Int.emod_lt_of_pos _ h0⟩
  · exact ⟨Int.emod_nonneg _ (by omega), Int.emod_lt_of_pos _ h0⟩
def cellR (ns : List Int) (k : Nat) : Int := ns.getD k 0
theorem cell_eq (ns : List Int) (k : Nat) : f_Lcell_at [scr ns, .int k] = .ret (.int (cellR ns k)) [] := by
  rw [f_Lcell_at_eq]
  by_cases h : k < ns.length
  · simp [s_Lcell_at, L2.atI, L2.ixN, scr, h, cellR]
  · have : ns.length ≤ k := by omega
    simp [s_Lcell_at, L2.atI, L2.ixN, scr, h, cellR, this]
@[irreducible] def stateR (ns : List Int) (k : Nat) : Sd := if 1000000000000000000 ≤ cellR ns k then (cellR ns k - 1000000000000000000, true) else (cellR ns k % 2147483647, false)
theorem state_eq (ns : List Int) (k : Nat) : f_Lstate [scr ns, .int k] = .ret (stV (stateR ns k)) [] := by
  rw [f_Lstate_eq]
  by_cases h : 1000000000000000000 ≤ cellR ns k
  · simp [s_Lstate, cell_eq, stV, stateR, h]
  · simp [s_Lstate, cell_eq, stV, stateR, h]
theorem atI_nat {α : Type} {xs : List α} {i : Int} (h0 : 0 ≤ i) (h1 : i < xs.length) : L2.atI xs i = xs[i.toNat]? := by
  unfold L2.atI L2.ixN
  rw [if_pos h0, if_pos h1]; rfl
theorem atI_some {α : Type} {xs : List α} {i : Int} (h0 : 0 ≤ i) (h1 : i < xs.length) : ∃ v, L2.atI xs i = some v ∧ v ∈ xs := by
  rw [atI_nat h0 h1]
  have q : i.toNat < xs.length := by omega
  exact ⟨xs[i.toNat], List.getElem?_eq_getElem q, List.getElem_mem q⟩
theorem sWhile_ex {β : Type} {gt : En → RE Bool} {g : En → SR} (I : β → Prop) (st : β → En) (m : β → Nat)
    (h : ∀ b, I b → (gt (st b) = .ok false (st b)) ∨ (∃ b', I b' ∧ m b' < m b ∧ gt (st b) = .ok true (st b) ∧ (g (st b) = .nx (st b') ∨ g (st b) = .ct (st b')))) :
    ∀ (n : Nat) (b : β), I b → m b < n → ∃ b', I b' ∧ gt (st b') = .ok false (st b') ∧ sWhile gt g n (st b) = .nx (st b')
  | 0, b, i, l => absurd l (Nat.not_lt_zero _)
  | n + 1, b, i, l => by
    rcases h b i with e | ⟨b', i', l', e, e2⟩
    · exact ⟨b, i, e, by rw [sWhile, e]⟩
    · obtain ⟨b2, i2, g2, e3⟩ := sWhile_ex I st m h n b' i' (by omega)
      refine ⟨b2, i2, g2, ?_⟩
      rw [sWhile, e]
      rcases e2 with e2 | e2 <;> simp only [e2, e3]
theorem neP_nilL {α : Type} [DecidableEq α] {d : Nat} {enc : α → PV} (h : EncD d enc) (l : d ≤ 63) (xs : List α) : neP (.list (xs.map enc)) (.list []) = some (!decide (xs = [])) := neP_enc h.list (by omega) xs []
theorem eqP_nilL {α : Type} [DecidableEq α] {d : Nat} {enc : α → PV} (h : EncD d enc) (l : d ≤ 63) (xs : List α) : eqP (.list (xs.map enc)) (.list []) = some (decide (xs = [])) := eqP_enc h.list (by omega) xs []
@[simp] theorem neP_nilI (xs : List Int) : neP (.list (xs.map .int)) (.list []) = some (!decide (xs = [])) := neP_nilL EncD.int (by omega) xs
@[simp] theorem eqP_nilI (xs : List Int) : eqP (.list (xs.map .int)) (.list []) = some (decide (xs = [])) := eqP_nilL EncD.int (by omega) xs
@[simp] theorem neP_nilP (xs : List Pr) : neP (.list (xs.map P)) (.list []) = some (!decide (xs = [])) := neP_nilL EncD.pair (by omega) xs
@[simp] theorem eqP_nilP (xs : List Pr) : eqP (.list (xs.map P)) (.list []) = some (decide (xs = [])) := eqP_nilL EncD.pair (by omega) xs
theorem map_eraseIdx {α β : Type} (f : α → β) : ∀ (l : List α) (i : Nat), (l.map f).eraseIdx i = (l.eraseIdx i).map f
  | [], _ => rfl
  | _ :: _, 0 => rfl
  | a :: l, i + 1 => by simp [map_eraseIdx f l i]
theorem eraseIdx_perm {α : Type} : ∀ (l : List α) (i : Nat) (h : i < l.length), (l[i] :: l.eraseIdx i).Perm l
  | a :: l, 0, _ => .refl _
  | a :: l, i + 1, h => by
    have := eraseIdx_perm l i (by simpa using h)
    simp only [List.getElem_cons_succ, List.eraseIdx_cons_succ]
    exact (List.Perm.swap _ _ _).trans (this.cons a)
/-- the loop of both drawers of rows -/
theorem mixed_turn (X : Option Sv) (s : Sd) (left found : List Int) (h : left ≠ []) (h2 : left.length < 1000) (h3 : found.length < 1000) :
    s_Lmixed_row_b0 [some (.o (stV s)), X, some (.o (.list (left.map .int))), some (.o (.list (found.map .int)))] =
      .nx [some (.o (stV (takeS s left.length))), X, some (.o (.list ((left.eraseIdx (takeR s left.length).toNat).map .int))), some (.o (.list ((found ++ [left.getD (takeR s left.length).toNat 0]).map .int)))] := by
  have hl : 0 < left.length := List.length_pos_iff.mpr h
  obtain ⟨b0, b1⟩ := takeR_bd s (m := left.length) (by omega)
  have q : (takeR s left.length).toNat < left.length := by omega
  have c : -1000000 ≤ takeR s left.length ∧ takeR s left.length ≤ 1000000 := by omega
  have e := take_eq s left.length (by omega) (by omega)
  have l3 : found.length < 16777216 := by omega
  simp [s_Lmixed_row_b0, e, c.1, c.2, L2.ixN, b0, b1, q, l3, map_eraseIdx, List.getD_eq_getElem?_getD]
theorem mixed_loop (X : Option Sv) (s : Sd) (xs : List Int) (hx : xs.length < 40) : ∃ (ys : List Int) (s' : Sd), ys.Perm xs ∧
    s_Lmixed_row_l1 [some (.o (stV s)), X, some (.o (.list (xs.map .int))), some (.o (.list []))] = .nx [some (.o (stV s')), X, some (.o (.list [])), some (.o (.list (ys.map .int)))] := by
  obtain ⟨⟨s', l', f'⟩, i, e1, e2⟩ := sWhile_ex (β := Sd × List Int × List Int) (gt := bCmp neP (pL 2 (eLst aNil))) (g := s_Lmixed_row_b0) (fun b => (b.2.1 ++ b.2.2).Perm xs) (fun b => [some (.o (stV b.1)), X, some (.o (.list (b.2.1.map .int))), some (.o (.list (b.2.2.map .int)))]) (fun b => b.2.1.length) (fun b i => by
    obtain ⟨s, left, found⟩ := b
    by_cases h : left = []
    · left; subst h; simp [neP, eqP, eqvOk, PyData.canLay0, PyData.canLayAll0, PyData.depth, PyData.depthAll, PyData.eqv, PyData.eqvAll]
    · right
      have hl : 0 < left.length := List.length_pos_iff.mpr h
      have len := i.length_eq
      simp only [List.length_append] at len
      obtain ⟨b0, b1⟩ := takeR_bd s (m := left.length) (by omega)
      have q : (takeR s left.length).toNat < left.length := by omega
      refine ⟨(takeS s left.length, left.eraseIdx (takeR s left.length).toNat, found ++ [left.getD (takeR s left.length).toNat 0]), ?_, ?_, ?_, .inl (mixed_turn X s left found h (by omega) (by omega))⟩
      · refine List.Perm.trans ?_ i
        show (left.eraseIdx _ ++ (found ++ [_])).Perm (left ++ found)
        rw [← List.append_assoc]
        refine List.perm_append_comm.trans ?_
        rw [← List.append_assoc]
        refine List.Perm.append_right _ ?_
        rw [List.getD_eq_getElem?_getD, List.getElem?_eq_getElem q]
        exact eraseIdx_perm left _ q
      · show (left.eraseIdx _).length < left.length
        rw [List.length_eraseIdx_of_lt q]; omega
      · simp [h]) 40 (s, xs, []) (by simp) hx
  simp only at i e1 e2
  have hl : l' = [] := by
    by_cases h : l' = []
    · exact h
    · simp [h] at e1
  subst hl
  exact ⟨f', s', by simpa using i, e2⟩
theorem mixed_row_eq (s : Sd) (xs : List Int) (hx : xs.length < 40) : ∃ (ys : List Int) (s' : Sd), ys.Perm xs ∧ f_Lmixed_row [stV s, .list (xs.map .int)] = .ret (.list (ys.map .int)) [stV s'] := by
  obtain ⟨ys, s', h1, h2⟩ := mixed_loop (some (.s (.list (xs.map .int)))) s xs hx
  refine ⟨ys, s', h1, ?_⟩
  rw [f_Lmixed_row_eq]
  simp [s_Lmixed_row, h2]
end Fn
namespace Fn
open PySem PySem.Spec PyProof.Rows L2 Fx
end Fn
namespace Fn
open PySem PySem.Spec PyProof.Rows L2 Fx
inductive TC (ps : List Pr) : Int → Int → Prop
  | base {a b : Int} : (a, b) ∈ ps → TC ps a b
  | step {a b c : Int} : TC ps a b → (b, c) ∈ ps → TC ps a c
theorem TC.trans {ps : List Pr} {a b c : Int} (h1 : TC ps a b) (h2 : TC ps b c) : TC ps a c := by
  induction h2 with
  | base h => exact .step h1 h
  | step _ h ih => exact .step ih h
theorem TC.mono {ps qs : List Pr} {a b : Int} (h : ∀ p ∈ ps, p ∈ qs) (t : TC ps a b) : TC qs a b := by
  induction t with
  | base x => exact .base (h _ x)
  | step _ x ih => exact .step ih (h _ x)
theorem TC.sub {ps qs : List Pr} {a b : Int} (h : ∀ x y, (x, y) ∈ ps → TC qs x y) (t : TC ps a b) : TC qs a b := by
  induction t with
  | base x => exact h _ _ x
  | step _ x ih => exact ih.trans (h _ _ x)
def Trn (ps : List Pr) : Prop := ∀ a b c, (a, b) ∈ ps → (b, c) ∈ ps → (a, c) ∈ ps
theorem TC.of_trn {ps qs : List Pr} (ht : Trn qs) (h : ∀ p ∈ ps, p ∈ qs) {a b : Int} (t : TC ps a b) : (a, b) ∈ qs := by
  induction t with
  | base x => exact h _ x
  | step _ x ih => exact ht _ _ _ ih (h _ x)
theorem TC.rg {n : Nat} {ps : List Pr} (h : Rg n ps) {a b : Int} (t : TC ps a b) : (0 ≤ a ∧ a < n) ∧ 0 ≤ b ∧ b < n := by
  induction t with
  | base x => exact h _ x
  | step _ x ih => exact ⟨ih.1, (h _ x).2⟩
theorem TC.rank {ps : List Pr} {rk : Int → Int} (h : ∀ p ∈ ps, rk p.1 < rk p.2) {a b : Int} (t : TC ps a b) : rk a < rk b := by
  induction t with
  | base x => exact h _ x
  | step _ x ih => have := h _ x; exact Int.lt_trans ih this
structure Cl (ps cl : List Pr) : Prop where
  ris : Ris cl
  mem : ∀ a b, (a, b) ∈ cl ↔ TC ps a b
theorem Cl.unique {ps c d : List Pr} (h : Cl ps c) (k : Cl ps d) : c = d := ris_ext h.ris k.ris fun ⟨a, b⟩ => by rw [h.mem, k.mem]
theorem Cl.trn {ps cl : List Pr} (h : Cl ps cl) : Trn cl := fun a b c x y => (h.mem _ _).mpr (((h.mem _ _).mp x).trans ((h.mem _ _).mp y))
theorem Cl.rg {n : Nat} {ps cl : List Pr} (h : Cl ps cl) (r : Rg n ps) : Rg n cl := fun ⟨a, b⟩ x => ((h.mem _ _).mp x).rg r
theorem Cl.self {ps : List Pr} (h : Ris ps) (t : Trn ps) : Cl ps ps := ⟨h, fun a b => ⟨.base, fun x => x.of_trn t fun _ z => z⟩⟩
def allP (n : Nat) : List Pr := (rng n).flatMap fun a => (rng n).map fun b => (a, b)
theorem mem_allP {n : Nat} {p : Pr} : p ∈ allP n ↔ (0 ≤ p.1 ∧ p.1 < n) ∧ 0 ≤ p.2 ∧ p.2 < n := by
  unfold allP
  simp only [List.mem_flatMap, List.mem_map, mem_rng]
  constructor
  · rintro ⟨a, h1, b, h2, rfl⟩; exact ⟨h1, h2⟩
  · rintro ⟨h1, h2⟩; exact ⟨p.1, h1, p.2, h2, rfl⟩
theorem allP_length (n : Nat) : (allP n).length = n * n := by
  unfold allP
  have : ∀ l : List Int, (l.flatMap fun a => (rng n).map fun b => (a, b)).length = l.length * n := by
    intro l
    induction l with
    | nil => simp
    | cons x l ih => simp [List.flatMap_cons, ih, Nat.succ_mul, Nat.add_comm]
  rw [this, rng_length]
theorem few {n : Nat} {ps : List Pr} (h : Rg n ps) (nd : ps.Nodup) : ps.length ≤ n * n := by
  rw [← allP_length n]
  exact nodup_le nd fun p hp => mem_allP.mpr (h p hp)
theorem nub_len {n : Nat} {ps : List Pr} (h : Rg n ps) : (nubL ps).length ≤ n * n := few (fun p hp => h p (nubL_mem.mp hp)) (nubL_nodup _)
theorem sq_le {n : Nat} (h : n ≤ 6) : n * n ≤ 36 := Nat.mul_le_mul h h
def setP (ps : List Pr) : List Pr := sortP (nubL ps)
theorem mem_setP {ps : List Pr} {p : Pr} : p ∈ setP ps ↔ p ∈ ps := mem_sortP.trans nubL_mem
theorem Rg.setP {n : Nat} {ps : List Pr} (h : Rg n ps) : Rg n (Fn.setP ps) := fun p hp => h p (mem_setP.mp hp)
theorem ris_setP {n : Nat} {ps : List Pr} (h : Rg n ps) (hn : n ≤ 64) : Ris (setP ps) := ris_sortP (fun p hp => h p (nubL_mem.mp hp)) hn (nubL_nodup _)
theorem nub_pl : ∀ ps : List Pr, nubL (ps.map pl) = (nubL ps).map pl
  | [] => rfl
  | p :: ps => by
    have : (pl p ∈ (nubL ps).map pl) ↔ p ∈ nubL ps := by
      constructor
      · intro h
        obtain ⟨q, hq, e⟩ := List.mem_map.mp h
        have : q = p := by
          unfold pl at e
          injection e with e1 e2
          injection e2 with e2 _
          exact Prod.ext e1 e2
        rw [← this]; exact hq
      · exact fun h => List.mem_map.mpr ⟨p, h, rfl⟩
    simp only [List.map_cons, nubL]
    rw [nub_pl ps]
    by_cases h : p ∈ nubL ps
    · rw [if_pos (this.mpr h), if_pos h]
    · rw [if_neg (fun z => h (this.mp z)), if_neg h]; rfl
theorem okRowsW_pairs {n : Nat} {ps : List Pr} (h : Rg n ps) (hn : n ≤ 6) : okRowsW (ps.map pl) = true := by
  unfold okRowsW
  have l := nub_len h
  have l2 := sq_le hn
  rw [nub_pl, List.length_map]
  simp only [show (nubL ps).length < 63 by omega, decide_true, Bool.true_and]
  cases ps with
  | nil => rfl
  | cons p ps =>
    simp only [List.map_cons, Bool.and_eq_true, decide_eq_true_eq]
    refine ⟨by simp [pl], ?_⟩
    rw [← List.map_cons (f := pl), List.all_map, List.all_eq_true]
    intro q hq
    have := h q hq
    simp [okRow, pl]; omega
theorem sortSetW_list {n : Nat} {ps : List Pr} (h : Rg n ps) (hn : n ≤ 6) : sortSetW (.list (ps.map P)) = some (.list ((setP ps).map P)) := by
  unfold sortSetW
  simp only [rowsP_pairs, Option.bind_some, okRowsW_pairs h hn, if_true]
  rw [nub_pl, sortRows]; rfl
theorem sortSetW_tup {n : Nat} {ps : List Pr} (h : Rg n ps) (hn : n ≤ 6) : sortSetW (.tuple (ps.map P)) = some (.list ((setP ps).map P)) := by
  unfold sortSetW
  simp only [rowsP_pairs, Option.bind_some, okRowsW_pairs h hn, if_true]
  rw [nub_pl, sortRows]; rfl
def addP (D : List Pr) (p : Pr) : List Pr := if p ∈ D then D else D ++ [p]
theorem mem_addP {D : List Pr} {p q : Pr} : q ∈ addP D p ↔ q ∈ D ∨ q = p := by
  unfold addP
  split
  · rename_i h
    constructor
    · exact .inl
    · rintro (h' | rfl) <;> assumption
  · simp
theorem addP_nodup {D : List Pr} {p : Pr} (h : D.Nodup) : (addP D p).Nodup := by
  unfold addP
  split
  · exact h
  · rename_i n
    exact List.nodup_append.mpr ⟨h, by simp, fun a ha b hb e => n (by rw [List.mem_singleton.mp hb] at e; rw [← e]; exact ha)⟩
def wst (m a : Int) (D : List Pr) (b : Int) : List Pr := if (a, m) ∈ D ∧ (m, b) ∈ D then addP D (a, b) else D
def wB (n : Nat) (m : Int) (D : List Pr) (a : Int) : List Pr := (rng n).foldl (wst m a) D
def wA (n : Nat) (D : List Pr) (m : Int) : List Pr := (rng n).foldl (wB n m) D
def W (n : Nat) (D : List Pr) : List Pr := (rng n).foldl (wA n) D
section
variable {α β : Type}
theorem fold_rel {R : β → β → Prop} (hr : ∀ b, R b b) (ht : ∀ a b c, R a b → R b c → R a c) {f : β → α → β} : ∀ (xs : List α) (b : β), (∀ b, ∀ a ∈ xs, R b (f b a)) → R b (xs.foldl f b)
  | [], b, _ => hr b
  | x :: xs, b, h => ht _ _ _ (h b x List.mem_cons_self) (fold_rel hr ht xs (f b x) fun b a ha => h b a (List.mem_cons_of_mem _ ha))
theorem fold_at {R : β → β → Prop} (hr : ∀ b, R b b) (ht : ∀ a b c, R a b → R b c → R a c) {f : β → α → β} {a0 : α} : ∀ (xs : List α) (b : β), (∀ b, ∀ a ∈ xs, R b (f b a)) → a0 ∈ xs → ∃ b1, R b b1 ∧ R (f b1 a0) (xs.foldl f b)
  | x :: xs, b, h, m => by
    rcases List.mem_cons.mp m with e | m
    · subst e
      exact ⟨b, hr b, fold_rel hr ht xs _ fun b a ha => h b a (List.mem_cons_of_mem _ ha)⟩
    · obtain ⟨b1, h1, h2⟩ := fold_at hr ht xs (f b x) (fun b a ha => h b a (List.mem_cons_of_mem _ ha)) m
      exact ⟨b1, ht _ _ _ (h b x List.mem_cons_self) h1, h2⟩
end
/-- one thing between -/
structure Ph (m : Int) (D D' : List Pr) : Prop where
  up : ∀ p ∈ D, p ∈ D'
  l : ∀ x, (x, m) ∈ D' → (x, m) ∈ D
  r : ∀ x, (m, x) ∈ D' → (m, x) ∈ D
  new : ∀ x y, (x, y) ∈ D' → (x, y) ∈ D ∨ (x, m) ∈ D ∧ (m, y) ∈ D
  nd : D.Nodup → D'.Nodup
theorem Ph.rfl' (m : Int) (D : List Pr) : Ph m D D := ⟨fun _ h => h, fun _ h => h, fun _ h => h, fun _ _ h => .inl h, id⟩
theorem Ph.trans (m : Int) (D E F : List Pr) (h : Ph m D E) (k : Ph m E F) : Ph m D F :=
  ⟨fun p x => k.up p (h.up p x), fun x z => h.l x (k.l x z), fun x z => h.r x (k.r x z), fun x y z => by
    rcases k.new x y z with z | ⟨z1, z2⟩
    · exact h.new x y z
    · exact .inr ⟨h.l _ z1, h.r _ z2⟩, fun n => k.nd (h.nd n)⟩
theorem ph_wst (m a : Int) (D : List Pr) (b : Int) : Ph m D (wst m a D b) := by
  unfold wst
  split
  · rename_i h
    obtain ⟨h1, h2⟩ := h
    refine ⟨fun p x => mem_addP.mpr (.inl x), fun x z => ?_, fun x z => ?_, fun x y z => ?_, addP_nodup⟩
    · rcases mem_addP.mp z with z | z
      · exact z
      · injection z with e1 e2; rw [e1]; exact h1
    · rcases mem_addP.mp z with z | z
      · exact z
      · injection z with e1 e2; rw [e2]; exact h2
    · rcases mem_addP.mp z with z | z
      · exact .inl z
      · injection z with e1 e2; rw [e1, e2]; exact .inr ⟨h1, h2⟩
  · exact .rfl' m D
theorem ph_wB (n : Nat) (m : Int) (D : List Pr) (a : Int) : Ph m D (wB n m D a) := fold_rel (Ph.rfl' m) (Ph.trans m) _ _ fun D b _ => ph_wst m a D b
theorem ph_wA (n : Nat) (D : List Pr) (m : Int) : Ph m D (wA n D m) := fold_rel (Ph.rfl' m) (Ph.trans m) _ _ fun D a _ => ph_wB n m D a
def CM (m : Int) (D : List Pr) : Prop := ∀ a b, (a, m) ∈ D → (m, b) ∈ D → (a, b) ∈ D
theorem cm_wA {n : Nat} {D : List Pr} (h : Rg n D) (m : Int) : CM m (wA n D m) := by
  intro a b h1 h2
  have p := ph_wA n D m
  have h1 := p.l _ h1
  have h2 := p.r _ h2
  obtain ⟨D1, a1, a2⟩ := fold_at (Ph.rfl' m) (Ph.trans m) (f := wB n m) (a0 := a) (rng n) D (fun D a _ => ph_wB n m D a) (mem_rng.mpr (h _ h1).1)
  obtain ⟨D2, b1, b2⟩ := fold_at (Ph.rfl' m) (Ph.trans m) (f := wst m a) (a0 := b) (rng n) D1 (fun D b _ => ph_wst m a D b) (mem_rng.mpr (h _ h2).2)
  refine a2.up _ (b2.up _ ?_)
  unfold wst
  rw [if_pos ⟨b1.up _ (a1.up _ h1), b1.up _ (a1.up _ h2)⟩]
  exact mem_addP.mpr (.inr rfl)
theorem Ph.rg {n : Nat} {m : Int} {D E : List Pr} (p : Ph m D E) (h : Rg n D) : Rg n E := fun ⟨x, y⟩ z => by
  rcases p.new x y z with z | ⟨z1, z2⟩
  · exact h _ z
  · exact ⟨(h _ z1).1, (h _ z2).2⟩
theorem cm_keep {n : Nat} {D : List Pr} (h : Rg n D) {m j : Int} (c : CM j D) : CM j (wA n D m) := by
  have p := ph_wA n D m
  have cm := cm_wA h m
  intro x y h1 h2
  rcases p.new _ _ h1 with h1 | ⟨h1, h1'⟩ <;> rcases p.new _ _ h2 with h2 | ⟨h2, h2'⟩
  · exact p.up _ (c _ _ h1 h2)
  · exact cm _ _ (p.up _ (c _ _ h1 h2)) (p.up _ h2')
  · exact cm _ _ (p.up _ h1) (p.up _ (c _ _ h1' h2))
  · exact cm _ _ (p.up _ h1) (p.up _ h2')
theorem W_inv {n : Nat} (qs : List Pr) : ∀ (ms : List Int) (D : List Pr), Rg n D → (∀ x y, (x, y) ∈ D → TC qs x y) →
    Rg n (ms.foldl (wA n) D) ∧ (∀ x y, (x, y) ∈ ms.foldl (wA n) D → TC qs x y) ∧ (∀ p ∈ D, p ∈ ms.foldl (wA n) D) ∧ (∀ j, (j ∈ ms ∨ CM j D) → CM j (ms.foldl (wA n) D)) ∧ (D.Nodup → (ms.foldl (wA n) D).Nodup)
  | [], D, h, t => ⟨h, t, fun _ x => x, fun j hj => hj.elim (fun z => nomatch z) id, id⟩
  | m :: ms, D, h, t => by
    have p := ph_wA n D m
    obtain ⟨a, b, c, d, e⟩ := W_inv qs ms (wA n D m) (p.rg h) fun x y z => by
      rcases p.new x y z with z | ⟨z1, z2⟩
      · exact t _ _ z
      · exact (t _ _ z1).trans (t _ _ z2)
    refine ⟨a, b, fun q hq => c q (p.up q hq), fun j hj => d j ?_, fun nd => e (p.nd nd)⟩
    rcases hj with hj | hj
    · rcases List.mem_cons.mp hj with z | z
      · subst z; exact .inr (cm_wA h j)
      · exact .inl z
    · exact .inr (cm_keep h hj)
theorem W_mem {n : Nat} {D : List Pr} (h : Rg n D) (a b : Int) : (a, b) ∈ W n D ↔ TC D a b := by
  obtain ⟨r, s, u, c, _⟩ := W_inv D (rng n) D h fun x y z => .base z
  refine ⟨s a b, fun t => t.of_trn (fun x y z h1 h2 => ?_) u⟩
  exact c y (.inl (mem_rng.mpr (r _ h1).2)) x z h1 h2
theorem W_rg {n : Nat} {D : List Pr} (h : Rg n D) : Rg n (W n D) := (W_inv D (rng n) D h fun x y z => .base z).1
theorem W_nodup {n : Nat} {D : List Pr} (h : Rg n D) (nd : D.Nodup) : (W n D).Nodup := (W_inv D (rng n) D h fun x y z => .base z).2.2.2.2 nd
end Fn
namespace Fn
open PySem PySem.Spec PyProof.Rows L2 Fx
theorem forL_foldS {α β : Type} {tg : Tg} {g : En → SR} (I : List α → β → Prop) (enc : α → PV) (st : β → En) (step : β → α → β) (h : ∀ a as b, I (a :: as) b → turn tg g (enc a) (st b) = .nx (st (step b a)) ∧ I as (step b a)) :
    ∀ (xs : List α) (b : β), I xs b → forL tg g (xs.map enc) (st b) = .nx (st (xs.foldl step b)) ∧ I [] (xs.foldl step b)
  | [], b, i => ⟨rfl, i⟩
  | x :: xs, b, i => by
    obtain ⟨h1, h2⟩ := h x xs b i
    rw [List.map_cons, forL_cons, h1]
    exact forL_foldS I enc st step h xs _ h2
def dD (D : List Pr) : List (List Int × PV) := D.map fun p => (pl p, .bool true)
theorem pl_inj {p q : Pr} : pl p = pl q ↔ p = q := by
  constructor
  · intro e
    unfold pl at e
    injection e with e1 e2
    injection e2 with e2 _
    exact Prod.ext e1 e2
  · intro e; rw [e]
theorem dHas_dD (D : List Pr) (p : Pr) : dHas (dD D) (pl p) = decide (p ∈ D) := by
  unfold dHas dD
  induction D with
  | nil => rfl
  | cons q D ih =>
    simp only [List.map_cons, List.find?_cons, pl_inj]
    by_cases h : q = p
    · simp [h]
    · simp only [h, decide_false]
      rw [ih]
      have : p ≠ q := fun z => h z.symm
      simp [this]
theorem dPut_dD (D : List Pr) (p : Pr) : dPut (dD D) (pl p) (.bool true) = dD (addP D p) := by
  unfold dPut addP
  rw [dHas_dD]
  by_cases h : p ∈ D
  · simp only [h, decide_true, if_true]
    unfold dD
    rw [List.map_map]
    refine List.map_congr_left fun q _ => ?_
    simp only [Function.comp]
    split <;> rfl
  · simp [h, dD]
theorem dNew_pairs : ∀ (ps D : List Pr), dNew (ps.map fun p => .tuple [P p, .bool true]) (dD D) = some (dD (ps.foldl addP D))
  | [], D => rfl
  | p :: ps, D => by
    rw [List.map_cons]
    show ((intsOf [.int p.1, .int p.2]).bind fun k => dNew (ps.map fun p => .tuple [P p, .bool true]) (dPut (dD D) k (.bool true))) = _
    simp only [intsOf, Option.map_some, Option.bind_some]
    rw [show [p.1, p.2] = pl p from rfl, dPut_dD, dNew_pairs ps]; rfl
theorem dD_length (D : List Pr) : (dD D).length = D.length := by simp [dD]
theorem foldl_addP {D : List Pr} : ∀ {ps : List Pr} {p : Pr}, p ∈ ps.foldl addP D ↔ p ∈ D ∨ p ∈ ps := by
  intro ps
  induction ps generalizing D with
  | nil => intro p; simp
  | cons q ps ih => intro p; rw [List.foldl_cons, ih, mem_addP]; simp [or_assoc]
theorem foldl_addP_nodup {D : List Pr} : ∀ {ps : List Pr}, D.Nodup → (ps.foldl addP D).Nodup := by
  intro ps
  induction ps generalizing D with
  | nil => exact id
  | cons q ps ih => intro h; exact ih (addP_nodup h)
/-- where things stand in the program's closing -/
def envC (n : Nat) (x : PV) (D : List Pr) (a4 a5 a6 : Option Sv) : En := [some (.s (.int n)), some (.s x), some (.d (dD D)), none, a4, a5, a6]
theorem rngI (n : Nat) (h : n ≤ 1000) : (-1000000000 : Int) ≤ (n : Int) ∧ (n : Int) ≤ 1000000000 := by omega
theorem closed_l2 {n : Nat} (hn : n ≤ 6) (x : PV) (m a : Int) (hm : 0 ≤ m ∧ m < n) (ha : 0 ≤ a ∧ a < n) (D : List Pr) (h : Rg n D) (nd : D.Nodup) : s_closed_l2 (envC n x D (some (.s (.int m))) (some (.s (.int a))) none) = .nx (envC n x (wB n m D a) (some (.s (.int m))) (some (.s (.int a))) none) := by
  have := rngI n (by omega)
  have e := (forL_foldI (tg := .n 6) (g := sW [6] s_closed_b1) (fun D => Rg n D ∧ D.Nodup) PyData.int (fun D => envC n x D (some (.s (.int m))) (some (.s (.int a))) none) (wst m a) (rng n) D ⟨h, nd⟩ fun b hb D ⟨h, nd⟩ => by
    refine ⟨?_, (ph_wst m a D b).rg h, (ph_wst m a D b).nd nd⟩
    have l := few h nd
    have l2 := sq_le hn
    have e1 : dHas (dD D) [a, m] = decide ((a, m) ∈ D) := dHas_dD D (a, m)
    have e2 : dHas (dD D) [m, b] = decide ((m, b) ∈ D) := dHas_dD D (m, b)
    have e3 : dPut (dD D) [a, b] (.bool true) = dD (addP D (a, b)) := dPut_dD D (a, b)
    have l3 : D.length < 16777216 := by omega
    by_cases c1 : (a, m) ∈ D <;> by_cases c2 : (m, b) ∈ D <;> simp [turn, s_closed_b1, envC, kT, e1, e2, e3, c1, c2, wst, dD_length, l3]).1
  simp only [s_closed_l2, sFor]
  rw [show iR1 (aCons (eVar 0) aNil) (envC n x D (some (.s (.int m))) (some (.s (.int a))) none) = .ok ((rng n).map .int) (envC n x D (some (.s (.int m))) (some (.s (.int a))) none) by simp [envC, this.1, this.2, upTo_rng]]
  exact e
theorem closed_l4 {n : Nat} (hn : n ≤ 6) (x : PV) (m : Int) (hm : 0 ≤ m ∧ m < n) (D : List Pr) (h : Rg n D) (nd : D.Nodup) : s_closed_l4 (envC n x D (some (.s (.int m))) none none) = .nx (envC n x (wA n D m) (some (.s (.int m))) none none) := by
  have := rngI n (by omega)
  have e := (forL_foldI (tg := .n 5) (g := sW [5, 6] s_closed_b3) (fun D => Rg n D ∧ D.Nodup) PyData.int (fun D => envC n x D (some (.s (.int m))) none none) (wB n m) (rng n) D ⟨h, nd⟩ fun a ha D ⟨h, nd⟩ => by
    refine ⟨?_, (ph_wB n m D a).rg h, (ph_wB n m D a).nd nd⟩
    have e := closed_l2 hn x m a hm (mem_rng.mp ha) D h nd
    simp only [envC] at e
    simp [turn, s_closed_b3, envC, e]).1
  simp only [s_closed_l4, sFor]
  rw [show iR1 (aCons (eVar 0) aNil) (envC n x D (some (.s (.int m))) none none) = .ok ((rng n).map .int) (envC n x D (some (.s (.int m))) none none) by simp [envC, this.1, this.2, upTo_rng]]
  exact e
theorem closed_l6 {n : Nat} (hn : n ≤ 6) (x : PV) (D : List Pr) (h : Rg n D) (nd : D.Nodup) : s_closed_l6 (envC n x D none none none) = .nx (envC n x (W n D) none none none) := by
  have := rngI n (by omega)
  have e := (forL_foldI (tg := .n 4) (g := sW [4, 5, 6] s_closed_b5) (fun D => Rg n D ∧ D.Nodup) PyData.int (fun D => envC n x D none none none) (wA n) (rng n) D ⟨h, nd⟩ fun m hm D ⟨h, nd⟩ => by
    refine ⟨?_, (ph_wA n D m).rg h, (ph_wA n D m).nd nd⟩
    have e := closed_l4 hn x m (mem_rng.mp hm) D h nd
    simp only [envC] at e
    simp [turn, s_closed_b5, envC, e]).1
  simp only [s_closed_l6, sFor]
  rw [show iR1 (aCons (eVar 0) aNil) (envC n x D none none none) = .ok ((rng n).map .int) (envC n x D none none none) by simp [envC, this.1, this.2, upTo_rng]]
  exact e
def isSeq (x : PV) (xs : List PV) : Prop := x = .list xs ∨ x = .tuple xs
theorem closed_eq {n : Nat} (hn : n ≤ 6) {ps : List Pr} (h : Rg n ps) (hl : ps.length ≤ 16777216) {x : PV} (hx : isSeq x (ps.map P)) : ∃ cl, Cl ps cl ∧ f_closed [.int n, x] = .ret (.list (cl.map P)) [] := by
  have m0 : ∀ p, p ∈ ps.foldl addP [] ↔ p ∈ ps := fun p => by rw [foldl_addP]; simp
  have r0 : Rg n (ps.foldl addP []) := fun p hp => h p ((m0 p).mp hp)
  have n0 : (ps.foldl addP []).Nodup := foldl_addP_nodup List.nodup_nil
  have r1 := W_rg r0
  have n1 := W_nodup r0 n0
  have l1 := few r1 n1
  have l2 := sq_le hn
  refine ⟨sortP (W n (ps.foldl addP [])), ⟨ris_sortP r1 (by omega) n1, fun a b => ?_⟩, ?_⟩
  · rw [mem_sortP, W_mem r0]
    exact ⟨.mono fun p hp => (m0 p).mp hp, .mono fun p hp => (m0 p).mpr hp⟩
  · rw [f_closed_eq]
    have c0 : s_closed_c0 [some (.s (.int n)), some (.s x), none, none, none, none, none] = .ok (.list (ps.map fun p => .tuple [P p, .bool true])) [some (.s (.int n)), some (.s x), none, none, none, none, none] := by
      refine eLC_map P (fun p => .tuple [P p, .bool true]) (ρ1 := [some (.s (.int n)), some (.s x), none, none, none, none, none]) ?_ hl (fun p _ => ?_) (by simp)
      · rcases hx with rfl | rfl <;> simp
      · simp [lcT]
    have d0 := dNew_pairs ps []
    have e6 := closed_l6 hn x (ps.foldl addP []) r0 n0
    simp only [envC] at e6
    rw [show dD [] = [] from rfl] at d0
    have sA := sortA_pairs r1 (by omega) (show (W n (ps.foldl addP [])).length < 64 by omega)
    have k : (dD (W n (ps.foldl addP []))).map (fun x => PyData.tuple (x.1.map .int)) = (W n (ps.foldl addP [])).map P := by
      unfold dD
      rw [List.map_map]; rfl
    simp [s_closed, c0, d0, e6, k, sA]
end Fn
namespace Fn
open PySem PySem.Spec PyProof.Rows L2 Fx
/-- what a walk between may make of a row of pairs: some more, each new -/
def Grown (D0 : List Pr) (D : List Pr) : Prop := ∃ E, D = D0 ++ E ∧ E.Nodup ∧ ∀ p ∈ E, p ∉ D0
theorem Grown.refl (D : List Pr) : Grown D D := ⟨[], by simp, List.nodup_nil, by simp⟩
def stepP (F : List Pr) (L : List Pr) (p : Pr) : List Pr := L ++ (F.filter fun q => decide (p.2 = q.1)).map fun q => (p.1, q.2)
def onceP (F : List Pr) : List Pr := F.foldl (stepP F) F
theorem foldl_stepP (F : List Pr) : ∀ (xs L : List Pr) (r : Pr), r ∈ xs.foldl (stepP F) L ↔ r ∈ L ∨ ∃ p ∈ xs, ∃ q ∈ F, p.2 = q.1 ∧ r = (p.1, q.2)
  | [], L, r => by simp
  | x :: xs, L, r => by
    rw [List.foldl_cons, foldl_stepP F xs]
    unfold stepP
    simp only [List.mem_append, List.mem_map, List.mem_filter, decide_eq_true_eq, List.mem_cons]
    constructor
    · rintro ((h | ⟨q, ⟨h1, h2⟩, rfl⟩) | ⟨p, hp, q, hq, h⟩)
      · exact .inl h
      · exact .inr ⟨x, .inl rfl, q, h1, h2, rfl⟩
      · exact .inr ⟨p, .inr hp, q, hq, h⟩
    · rintro (h | ⟨p, rfl | hp, q, hq, h1, h2⟩)
      · exact .inl (.inl h)
      · exact .inl (.inr ⟨q, ⟨hq, h1⟩, h2.symm⟩)
      · exact .inr ⟨p, hp, q, hq, h1, h2⟩
theorem mem_onceP {F : List Pr} {r : Pr} : r ∈ onceP F ↔ r ∈ F ∨ ∃ p ∈ F, ∃ q ∈ F, p.2 = q.1 ∧ r = (p.1, q.2) := foldl_stepP F F F r
theorem onceP_rg {n : Nat} {F : List Pr} (h : Rg n F) : Rg n (onceP F) := fun r hr => by
  rcases mem_onceP.mp hr with z | ⟨p, hp, q, hq, _, rfl⟩
  · exact h r z
  · exact ⟨(h p hp).1, (h q hq).2⟩
theorem Lclosed_l2 {n : Nat} (hn : n ≤ 6) (x : PV) (F : List Pr) (h : Rg n F) (hl : F.length ≤ 36) : s_Lclosed_l2 [some (.s x), some (.s (.list (F.map P))), some (.o (.list (F.map P))), none, none, none, none] = .nx [some (.s x), some (.s (.list (F.map P))), some (.o (.list ((onceP F).map P))), none, none, none, none] := by
  have e := (forL_foldS (tg := .t [3, 4]) (g := sW [3, 4] s_Lclosed_b1) (fun as L => L.length + 36 * as.length ≤ 36 + 36 * 36) P (fun L => [some (.s x), some (.s (.list (F.map P))), some (.o (.list (L.map P))), none, none, none, none]) (stepP F) (fun p as L i => by
    have l1 : ((F.filter fun q => decide (p.2 = q.1)).map fun q => (p.1, q.2)).length ≤ F.length := by rw [List.length_map]; exact List.length_filter_le _ _
    rw [List.length_cons] at i
    refine ⟨?_, ?_⟩
    · have c : s_Lclosed_c0 [some (.s x), some (.s (.list (F.map P))), some (.o (.list (L.map P))), some (.s (.int p.1)), some (.s (.int p.2)), none, none] = .ok (.list (((F.filter fun q => decide (p.2 = q.1)).map fun q => (p.1, q.2)).map P)) [some (.s x), some (.s (.list (F.map P))), some (.o (.list (L.map P))), some (.s (.int p.1)), some (.s (.int p.2)), none, none] := by
        rw [List.map_map]
        refine eLC_filt P (fun q => decide (p.2 = q.1)) (fun q => P (p.1, q.2)) (ρ1 := [some (.s x), some (.s (.list (F.map P))), some (.o (.list (L.map P))), some (.s (.int p.1)), some (.s (.int p.2)), none, none]) (by simp) (by omega) (fun q _ => ?_) (by simp)
        by_cases c : p.2 = q.1 <;> simp [lcT, P, c]
      have l3 : L.length + (F.filter fun q => decide (p.2 = q.1)).length ≤ 16777216 := by rw [List.length_map] at l1; omega
      simp [turn, s_Lclosed_b1, P, c, stepP, l3]
    · unfold stepP
      rw [List.length_append]; omega) F F (by omega)).1
  simp only [s_Lclosed_l2, sFor]
  rw [show iSeq (eVar 1) [some (.s x), some (.s (.list (F.map P))), some (.o (.list (F.map P))), none, none, none, none] = .ok (F.map P) [some (.s x), some (.s (.list (F.map P))), some (.o (.list (F.map P))), none, none, none, none] by simp]
  exact e
theorem sWhile_fix {β : Type} {gt : En → RE Bool} {g : En → SR} (I : β → Prop) (Fin : β → Prop) (st : β → En) (v : β → PV) (r : β → En) (m : β → Nat) (ht : ∀ b, gt (st b) = .ok true (st b))
    (h : ∀ b, I b → (Fin b ∧ g (st b) = .ret (v b) (r b)) ∨ (∃ b', I b' ∧ m b' < m b ∧ g (st b) = .nx (st b'))) :
    ∀ (n : Nat) (b : β), I b → m b < n → ∃ b', I b' ∧ Fin b' ∧ sWhile gt g n (st b) = .ret (v b') (r b')
  | 0, b, i, l => absurd l (Nat.not_lt_zero _)
  | n + 1, b, i, l => by
    rcases h b i with ⟨f, e⟩ | ⟨b', i', l', e⟩
    · exact ⟨b, i, f, by rw [sWhile, ht]; simp only [e]⟩
    · obtain ⟨b2, i2, f2, e3⟩ := sWhile_fix I Fin st v r m ht h n b' i' (by omega)
      exact ⟨b2, i2, f2, by rw [sWhile, ht]; simp only [e, e3]⟩
theorem sub_eq {α : Type} [DecidableEq α] {l m : List α} (nl : l.Nodup) (nm : m.Nodup) (h : ∀ x ∈ l, x ∈ m) (hl : m.length ≤ l.length) : ∀ x ∈ m, x ∈ l := fun x hx => by
  by_cases c : x ∈ l
  · exact c
  · have := nodup_le (l := x :: l) (m := m) (List.nodup_cons.mpr ⟨c, nl⟩) fun y hy => by
      rcases List.mem_cons.mp hy with rfl | hy
      · exact hx
      · exact h y hy
    rw [List.length_cons] at this; omega
theorem Lclosed_eq {n : Nat} (hn : n ≤ 6) {ps : List Pr} (h : Rg n ps) {x : PV} (hx : isSeq x (ps.map P)) : ∃ cl, Cl ps cl ∧ f_Lclosed [x] = .ret (.list (cl.map P)) [] := by
  have l2 := sq_le hn
  have first : s_Lclosed [some (.s x), none, none, none, none, none, none] = s_Lclosed_l4 [some (.s x), some (.s (.list ((setP ps).map P))), none, none, none, none, none] := by
    rcases hx with rfl | rfl
    · simp [s_Lclosed, sortSetW_list h hn]
    · simp [s_Lclosed, sortSetW_tup h hn]
  have lenF : ∀ F : List Pr, Rg n F → Ris F → F.length ≤ 36 := fun F r i => Nat.le_trans (few r i.nodup) l2
  obtain ⟨F, ⟨rF, iF, sF, uF⟩, fin, e⟩ := sWhile_fix (gt := bVal (eC (.bool true))) (g := sW [2, 3, 4] s_Lclosed_b3) (fun F : List Pr => Rg n F ∧ Ris F ∧ (∀ a b, (a, b) ∈ F → TC ps a b) ∧ ∀ p ∈ ps, p ∈ F) (fun F => setP (onceP F) = F)
    (fun F => [some (.s x), some (.s (.list (F.map P))), none, none, none, none, none]) (fun F => .list (F.map P)) (fun F => [some (.s x), some (.s (.list (F.map P))), some (.o (.list (F.map P))), none, none, none, none]) (fun F => 36 - F.length) (fun F => by simp) (fun F ⟨rF, iF, sF, uF⟩ => by
      have e2 := Lclosed_l2 hn x F rF (lenF F rF iF)
      have rO := onceP_rg rF
      have s := sortSetW_list rO hn
      by_cases c : setP (onceP F) = F
      · left
        refine ⟨c, ?_⟩
        simp [s_Lclosed_b3, e2, s, c]
      · right
        have up : ∀ p ∈ F, p ∈ setP (onceP F) := fun p hp => mem_setP.mpr (mem_onceP.mpr (.inl hp))
        have iO := ris_setP rO (by omega : n ≤ 64)
        refine ⟨setP (onceP F), ⟨rO.setP, iO, fun a b hab => ?_, fun p hp => up p (uF p hp)⟩, ?_, ?_⟩
        · rcases mem_onceP.mp (mem_setP.mp hab) with z | ⟨p, hp, q, hq, e, z⟩
          · exact sF _ _ z
          · injection z with z1 z2
            rw [z1, z2]
            exact (sF p.1 p.2 hp).trans (by rw [e]; exact sF q.1 q.2 hq)
        · have a := lenF F rF iF
          have b := lenF _ rO.setP iO
          have le := nodup_le iF.nodup up
          have : F.length < (setP (onceP F)).length := by
            rcases Nat.lt_or_ge F.length (setP (onceP F)).length with l | l
            · exact l
            · exact absurd (ris_ext iO iF fun p => ⟨sub_eq iF.nodup iO.nodup up l p, up p⟩) c
          omega
        · simp [s_Lclosed_b3, e2, s, c]) 40 (setP ps) ⟨h.setP, ris_setP h (by omega), fun a b z => .base (mem_setP.mp z), fun p hp => mem_setP.mpr hp⟩ (by omega)
  refine ⟨F, ⟨iF, fun a b => ⟨sF a b, fun t => t.of_trn (fun a b c h1 h2 => ?_) uF⟩⟩, ?_⟩
  · rw [← fin]
    exact mem_setP.mpr (mem_onceP.mpr (.inr ⟨_, h1, _, h2, rfl, rfl⟩))
  · rw [f_Lclosed_eq, first]
    unfold s_Lclosed_l4
    rw [e]
    simp
end Fn
namespace Fn
open PySem PySem.Spec PyProof.Rows L2 Fx
end Fn
namespace Fn
open PySem PySem.Spec PyProof.Rows L2 Fx
end Fn
namespace Fn
open PySem PySem.Spec PyProof.Rows L2 Fx
mutual
def okv : PV → Bool
  | .list xs => decide (xs.length ≤ 1000000) && okvs xs
  | .tuple xs => decide (xs.length ≤ 1000000) && okvs xs
  | .dict kvs => kvs.isEmpty
  | _ => true
def okvs : List PV → Bool
  | [] => true
  | x :: xs => okv x && okvs xs
end
theorem okvs_mem : ∀ {xs : List PV}, okvs xs = true → ∀ x ∈ xs, okv x = true
  | y :: ys, h, x, hx => by
    simp only [okvs, Bool.and_eq_true] at h
    rcases List.mem_cons.mp hx with rfl | hx
    · exact h.1
    · exact okvs_mem h.2 x hx
theorem okv_tuple {xs : List PV} (h : okv (.tuple xs) = true) : xs.length ≤ 1000000 ∧ ∀ x ∈ xs, okv x = true := by
  simp only [okv, Bool.and_eq_true, decide_eq_true_eq] at h
  exact ⟨h.1, okvs_mem h.2⟩
@[simp] def wholeB : PV → Bool
  | .int _ => true
  | _ => false
@[simp] def isTupB : PV → Bool
  | .tuple _ => true
  | _ => false
@[simp] def isListB : PV → Bool
  | .list _ => true
  | _ => false
@[simp] def isBoolB : PV → Bool
  | .bool _ => true
  | _ => false
theorem isi_tuple {v : PV} (h : okv v = true) : isiP "tuple" v = some (isTupB v) := by
  cases v with
  | dict kvs => cases kvs with | nil => rfl | cons a b => cases h
  | _ => rfl
theorem is_whole_eq {v : PV} (h : okv v = true) : f_is_whole [v] = .ret (.bool (wholeB v)) [] := by
  cases v with
  | dict kvs => cases kvs with | nil => rfl | cons a b => cases h
  | _ => rfl
@[simp] def thingB (n : Int) : PV → Bool
  | .int i => decide (0 ≤ i) && decide (i < n)
  | _ => false
theorem is_thing_eq {n : Int} {v : PV} (h : okv v = true) : f_is_thing [.int n, v] = .ret (.bool (thingB n v)) [] := by
  rw [f_is_thing_eq]
  cases v with
  | int i => by_cases c : 0 ≤ i <;> simp [s_is_thing, is_whole_eq (v := .int i) rfl, c]
  | _ => simp [s_is_thing, is_whole_eq h]
@[simp] def numB : PV → Bool
  | .int i => decide (1 ≤ i) && decide (i ≤ 6)
  | _ => false
theorem is_number_eq {v : PV} (h : okv v = true) : f_is_number [v] = .ret (.bool (numB v)) [] := by
  rw [f_is_number_eq]
  cases v with
  | int i => by_cases c : 1 ≤ i <;> simp [s_is_number, is_whole_eq (v := .int i) rfl, c, c_MOST]
  | _ => simp [s_is_number, is_whole_eq h]
@[simp] def pairB (n : Int) : PV → Bool
  | .tuple [a, b] => thingB n a && thingB n b
  | _ => false
theorem is_pair_eq {n : Int} {v : PV} (h : okv v = true) : f_is_pair [.int n, v] = .ret (.bool (pairB n v)) [] := by
  rw [f_is_pair_eq]
  cases v with
  | tuple xs =>
    obtain ⟨hl, hx⟩ := okv_tuple h
    have c : s_is_pair_c0 [some (.s (.int n)), some (.s (.tuple xs)), none] = .ok (.list (xs.map fun x => .bool (thingB n x))) [some (.s (.int n)), some (.s (.tuple xs)), none] := by
      refine eLC_map (fun x => x) (fun x => .bool (thingB n x)) (xs := xs) (ρ1 := [some (.s (.int n)), some (.s (.tuple xs)), none]) (by simp) (by omega) (fun x hx' => ?_) (by simp)
      simp [lcT, is_thing_eq (hx x hx')]
    match xs, hl, hx, c with
    | [], _, _, _ => simp [s_is_pair, isi_tuple h]
    | [a], _, _, _ => simp [s_is_pair, isi_tuple h]
    | [a, b], _, _, c => simp [s_is_pair, isi_tuple h, c, allV]
    | a :: b :: d :: r, _, _, _ =>
      have : ¬ ((r.length : Int) + 1 + 1 + 1 = 2) := by omega
      simp [s_is_pair, isi_tuple h, this]
  | _ => simp [s_is_pair, isi_tuple h]
structure IsOrd (n : Nat) (ps : List Pr) : Prop where
  n1 : 1 ≤ n
  n6 : n ≤ 6
  rg : Rg n ps
  irr : ∀ a, (a, a) ∉ ps
  trn : Trn ps
  ris : Ris ps
theorem IsOrd.len {n : Nat} {ps : List Pr} (h : IsOrd n ps) : ps.length ≤ 36 := Nat.le_trans (few h.rg h.ris.nodup) (sq_le h.n6)
def OrdV (v : PV) : Prop := ∃ n ps, v = ordV n ps ∧ IsOrd n ps
@[simp] def goodB (n : Int) : PV → Bool
  | .tuple [.int a, .int b] => decide (0 ≤ a) && decide (a < n) && (decide (0 ≤ b) && decide (b < n)) && !decide (a = b)
  | _ => false
theorem good_pairs {n : Nat} : ∀ {qs : List PV}, qs.all (goodB n) = true → ∃ ps : List Pr, qs = ps.map P ∧ Rg n ps ∧ ∀ p ∈ ps, p.1 ≠ p.2
  | [], _ => ⟨[], rfl, fun _ h => (nomatch h), fun _ h => (nomatch h)⟩
  | q :: qs, h => by
    simp only [List.all_cons, Bool.and_eq_true] at h
    obtain ⟨ps, e, r, i⟩ := good_pairs h.2
    have h1 := h.1
    unfold goodB at h1
    split at h1
    · rename_i a b
      simp only [Bool.and_eq_true, decide_eq_true_eq, Bool.not_eq_true', decide_eq_false_iff_not] at h1
      refine ⟨(a, b) :: ps, by rw [e]; rfl, fun p hp => ?_, fun p hp => ?_⟩
      · rcases List.mem_cons.mp hp with rfl | hp
        · exact h1.1
        · exact r p hp
      · rcases List.mem_cons.mp hp with rfl | hp
        · exact h1.2
        · exact i p hp
    · cases h1
theorem good_all {n : Nat} {ps : List Pr} (r : Rg n ps) (i : ∀ p ∈ ps, p.1 ≠ p.2) : (ps.map P).all (goodB n) = true := by
  rw [List.all_map, List.all_eq_true]
  intro p hp
  have := r p hp
  have := i p hp
  simp [P]; omega
theorem ord_inj {n m : Nat} {ps qs : List Pr} (h : ordV n ps = ordV m qs) : n = m ∧ ps = qs := by
  unfold ordV at h
  injection h with h
  injection h with h1 h2
  injection h2 with h2 _
  injection h1 with h1
  injection h2 with h2
  refine ⟨by omega, ?_⟩
  have : ∀ {a b : List Pr}, a.map P = b.map P → a = b := by
    intro a
    induction a with
    | nil => intro b h; cases b with | nil => rfl | cons _ _ => cases h
    | cons x a ih =>
      intro b h
      cases b with
      | nil => cases h
      | cons y b =>
        injection h with h1 h2
        unfold P at h1
        injection h1 with h1
        injection h1 with h1 h3
        injection h3 with h3 _
        injection h1 with h1
        injection h3 with h3
        rw [ih h2, Prod.ext h1 h3]
  exact this h2
theorem ord_c0 {n : Nat} {v : PV} {qs : List PV} (hl : qs.length ≤ 1000000) (hx : ∀ x ∈ qs, okv x = true) : s_is_order_c0 [some (.s v), some (.s (.int n)), some (.s (.tuple qs)), none] = .ok (.list (qs.map fun q => .bool (goodB n q))) [some (.s v), some (.s (.int n)), some (.s (.tuple qs)), none] := by
  refine eLC_map (fun x => x) (fun x => .bool (goodB n x)) (xs := qs) (ρ1 := [some (.s v), some (.s (.int n)), some (.s (.tuple qs)), none]) (by simp) (by omega) (fun x hx' => ?_) (by simp)
  have e := is_pair_eq (n := n) (hx x hx')
  match x, e with
  | .tuple [.int a, .int b], e =>
    simp [lcT, e]
    by_cases c1 : 0 ≤ a <;> by_cases c2 : a < n <;> by_cases c3 : 0 ≤ b <;> by_cases c4 : b < n <;> simp [c1, c2, c3, c4, L2.atI, L2.ixN]
  | .tuple [], e => simp [lcT, e]
  | .tuple [_], e => simp [lcT, e]
  | .tuple (_ :: _ :: _ :: _), e => simp [lcT, e]
  | .tuple [.none, _], e => simp [lcT, e]
  | .tuple [.bool _, _], e => simp [lcT, e]
  | .tuple [.str _, _], e => simp [lcT, e]
  | .tuple [.list _, _], e => simp [lcT, e]
  | .tuple [.tuple _, _], e => simp [lcT, e]
  | .tuple [.dict _, _], e => simp [lcT, e]
  | .tuple [.int _, .none], e => simp [lcT, e]
  | .tuple [.int _, .bool _], e => simp [lcT, e]
  | .tuple [.int _, .str _], e => simp [lcT, e]
  | .tuple [.int _, .list _], e => simp [lcT, e]
  | .tuple [.int _, .tuple _], e => simp [lcT, e]
  | .tuple [.int _, .dict _], e => simp [lcT, e]
  | .none, e => simp [lcT, e]
  | .bool _, e => simp [lcT, e]
  | .int _, e => simp [lcT, e]
  | .str _, e => simp [lcT, e]
  | .list _, e => simp [lcT, e]
  | .dict _, e => simp [lcT, e]
theorem is_order_pairs {n : Nat} (h1 : 1 ≤ n) (h6 : n ≤ 6) {ps : List Pr} (hl : ps.length ≤ 1000000) (r : Rg n ps) (i : ∀ p ∈ ps, p.1 ≠ p.2) : ∃ b, f_is_order [ordV n ps] = .ret (.bool b) [] ∧ (b = true ↔ IsOrd n ps) := by
  obtain ⟨cl, hc, e⟩ := closed_eq h6 r (by omega) (.inr rfl : isSeq (.tuple (ps.map P)) (ps.map P))
  refine ⟨decide (cl = ps), ?_, ?_⟩
  · rw [f_is_order_eq]
    have ok : ∀ x ∈ ps.map P, okv x = true := fun x hx => by obtain ⟨p, _, rfl⟩ := List.mem_map.mp hx; rfl
    have c := ord_c0 (n := n) (v := ordV n ps) (qs := ps.map P) (by simpa using hl) ok
    have k : ((ps.map P).map fun q => PyData.bool (goodB n q)) = ps.map fun p => PyData.bool (goodB n (P p)) := by rw [List.map_map]; rfl
    rw [k] at c
    have g := good_all r i
    rw [List.all_map] at g
    have n1 : (1 : Int) ≤ n := by omega
    have n2 : (n : Int) ≤ 6 := by omega
    have num : f_is_number [.int n] = .ret (.bool true) [] := by rw [is_number_eq rfl]; simp [n1, n2]
    have t1 : isiP "tuple" (.tuple [.int n, .tuple (ps.map P)]) = some true := rfl
    have t2 : isiP "tuple" (.tuple (ps.map P)) = some true := rfl
    have g' : (ps.all fun p => goodB n (P p)) = true := g
    simp only [ordV] at c ⊢
    simp [s_is_order, t1, t2, num, c, g', e, L2.atI, L2.ixN, -goodB]
  · rw [decide_eq_true_eq]
    constructor
    · rintro rfl
      exact ⟨h1, h6, r, fun a ha => i _ ha rfl, hc.trn, hc.ris⟩
    · exact fun o => hc.unique (.self o.ris o.trn)
end Fn
namespace Fn
open PySem PySem.Spec PyProof.Rows L2 Fx
theorem isi_okT (xs : List PV) : isiP "tuple" (.tuple xs) = some true := rfl
theorem not_ordV {v : PV} (h : ∀ n ps, v ≠ ordV n ps) : ¬ OrdV v := fun ⟨n, ps, e, _⟩ => h n ps e
theorem is_order_eq {v : PV} (hv : okv v = true) : ∃ b, f_is_order [v] = .ret (.bool b) [] ∧ (b = true ↔ OrdV v) := by
  have no : ∀ {v : PV}, f_is_order [v] = .ret (.bool false) [] → (∀ n ps, v ≠ ordV n ps) → ∃ b, f_is_order [v] = .ret (.bool b) [] ∧ (b = true ↔ OrdV v) := fun e h => ⟨false, e, by simp [not_ordV h]⟩
  match v, hv with
  | .none, hv => exact no rfl fun n ps z => by cases z
  | .bool _, hv => exact no rfl fun n ps z => by cases z
  | .int _, hv => exact no rfl fun n ps z => by cases z
  | .str _, hv => exact no rfl fun n ps z => by cases z
  | .list _, hv => exact no rfl fun n ps z => by cases z
  | .dict [], hv => exact no rfl fun n ps z => by cases z
  | .tuple [], hv => exact no (by rw [f_is_order_eq]; simp [s_is_order, isi_okT]) fun n ps z => by cases z
  | .tuple [_], hv => exact no (by rw [f_is_order_eq]; simp [s_is_order, isi_okT]) fun n ps z => by cases z
  | .tuple (_ :: _ :: _ :: r), hv =>
    have : ¬ ((r.length : Int) + 1 + 1 + 1 = 2) := by omega
    exact no (by rw [f_is_order_eq]; simp [s_is_order, isi_okT, this]) fun n ps z => by cases z
  | .tuple [a, b], hv =>
    obtain ⟨_, hx⟩ := okv_tuple hv
    have ha := hx a (by simp)
    have hb := hx b (by simp)
    by_cases na : numB a = true
    · cases a with
      | int i =>
        simp only [numB, Bool.and_eq_true, decide_eq_true_eq] at na
        have num : f_is_number [.int i] = .ret (.bool true) [] := by rw [is_number_eq rfl]; simp [na]
        by_cases tb : isTupB b = true
        · cases b with
          | tuple qs =>
            obtain ⟨hl, hq⟩ := okv_tuple hb
            have en : ((i.toNat : Nat) : Int) = i := by omega
            by_cases g : qs.all (goodB i) = true
            · rw [← en] at g
              obtain ⟨ps, rfl, r, ir⟩ := good_pairs g
              obtain ⟨b, e1, e2⟩ := is_order_pairs (n := i.toNat) (by omega) (by omega) (by simpa using hl) r ir
              rw [ordV, en] at e1
              refine ⟨b, e1, e2.trans ⟨fun o => ⟨_, _, by rw [ordV, en], o⟩, fun ⟨n, qs, e, o⟩ => ?_⟩⟩
              have := ord_inj (show ordV i.toNat ps = ordV n qs by rw [← e, ordV, en])
              rw [this.1, this.2]; exact o
            · have c := ord_c0 (n := i.toNat) (v := .tuple [.int i, .tuple qs]) hl hq
              rw [en] at c
              have g' : qs.all (goodB i) = false := by simpa using g
              refine ⟨false, ?_, ?_⟩
              · rw [f_is_order_eq]
                simp [s_is_order, isi_okT, num, c, g', L2.atI, L2.ixN, -goodB]
              · constructor
                · intro z; cases z
                · rintro ⟨n, ps, e, o⟩
                  unfold ordV at e
                  injection e with e
                  injection e with e1 e2
                  injection e1 with e1
                  injection e2 with e2 _
                  injection e2 with e2
                  subst e2
                  have := good_all o.rg fun p hp z => o.irr p.1 (by have : p = (p.1, p.1) := Prod.ext rfl z.symm; rw [← this]; exact hp)
                  rw [← e1] at this
                  exact absurd this g
          | _ => cases tb
        · have tb' : isTupB b = false := by simpa using tb
          refine no ?_ fun n ps z => ?_
          · rw [f_is_order_eq]
            simp [s_is_order, isi_okT, num, isi_tuple hb, tb', L2.atI, L2.ixN, -isTupB]
          · unfold ordV at z
            injection z with z
            injection z with _ z
            injection z with z _
            rw [z] at tb'; cases tb'
      | _ => cases na
    · have na' : numB a = false := by simpa using na
      refine ⟨false, ?_, ?_⟩
      · rw [f_is_order_eq]
        simp [s_is_order, isi_okT, is_number_eq ha, na', L2.atI, L2.ixN, -numB]
      · constructor
        · intro z; cases z
        · rintro ⟨n, ps, z, o⟩
          unfold ordV at z
          injection z with z
          injection z with z _
          have := o.n1
          have := o.n6
          rw [z] at na'
          simp only [numB, Bool.and_eq_false_imp, decide_eq_true_eq, decide_eq_false_iff_not] at na'
          omega
theorem need_ok {n : Nat} {ps : List Pr} (h : IsOrd n ps) : f_need_order [ordV n ps] = .ret .none [] := by
  have hv : okv (ordV n ps) = true := by
    have := h.len
    have : ∀ l : List Pr, okvs (l.map P) = true := fun l => by induction l with | nil => rfl | cons a l ih => simp [okvs, ih, P, okv]
    simp [ordV, okv, okvs, this]; omega
  obtain ⟨b, e, i⟩ := is_order_eq hv
  have : b = true := i.mpr ⟨n, ps, rfl, h⟩
  rw [f_need_order_eq]
  simp [s_need_order, e, this]
end Fn
namespace Fn
open PySem PySem.Spec PyProof.Rows L2 Fx
end Fn
namespace Fn
open PySem PySem.Spec PyProof.Rows L2 Fx
theorem forL_exS {α β : Type} {tg : Tg} {g : En → SR} (I : List α → β → Prop) (enc : α → PV) (st : β → En) (h : ∀ a as b, I (a :: as) b → ∃ b', I as b' ∧ turn tg g (enc a) (st b) = .nx (st b')) :
    ∀ (xs : List α) (b : β), I xs b → ∃ b', I [] b' ∧ forL tg g (xs.map enc) (st b) = .nx (st b')
  | [], b, i => ⟨b, i, rfl⟩
  | x :: xs, b, i => by
    obtain ⟨b', h1, h2⟩ := h x xs b i
    rw [List.map_cons, forL_cons, h2]
    exact forL_exS I enc st h xs _ h1
theorem paired_ints {α : Type} : ∀ {xs : List α} {ws : List PV}, Paired (fun _ v => ∃ m : Int, v = .int m) xs ws → ∃ ms : List Int, ws = ms.map .int ∧ ms.length = xs.length
  | _, _, .nil => ⟨[], rfl, rfl⟩
  | _, _, .cons ⟨m, h⟩ r => by
    obtain ⟨ms, e, l⟩ := paired_ints r
    exact ⟨m :: ms, by rw [h, e]; rfl, by simp [l]⟩
def gI (xs : List Int) (i : Int) : Int := xs.getD i.toNat 0
theorem atI_ints {xs : List Int} {i : Int} (h0 : 0 ≤ i) (h1 : i < xs.length) : L2.atI (xs.map PyData.int) i = some (.int (gI xs i)) := by
  rw [atI_nat h0 (by simpa using h1)]
  have : i.toNat < xs.length := by omega
  simp [gI, this, List.getD_eq_getElem?_getD]
theorem gI_mem {xs : List Int} {i : Int} (h0 : 0 ≤ i) (h1 : i < xs.length) : gI xs i ∈ xs := by
  have : i.toNat < xs.length := by omega
  unfold gI
  rw [List.getD_eq_getElem?_getD, List.getElem?_eq_getElem this]
  exact List.getElem_mem this
theorem gI_inj {xs : List Int} (nd : xs.Nodup) {i j : Int} (h0 : 0 ≤ i) (h1 : i < xs.length) (h2 : 0 ≤ j) (h3 : j < xs.length) (e : gI xs i = gI xs j) : i = j := by
  have a : i.toNat < xs.length := by omega
  have b : j.toNat < xs.length := by omega
  unfold gI at e
  rw [List.getD_eq_getElem?_getD, List.getD_eq_getElem?_getD, List.getElem?_eq_getElem a, List.getElem?_eq_getElem b] at e
  have := (List.pairwise_iff_getElem.mp nd)
  rcases Nat.lt_trichotomy i.toNat j.toNat with l | l | l
  · exact absurd e (this _ _ a b l)
  · omega
  · exact absurd e.symm (this _ _ b a l)
/-- pairs that lead onward in a row -/
def Onw (row : List Int) (ps : List Pr) : Prop := ∀ p ∈ ps, ∃ i j : Int, 0 ≤ i ∧ i < j ∧ j < row.length ∧ p = (gI row i, gI row j)
def UpW (marks : List Int) (ps : List Pr) : Prop := ∀ p ∈ ps, 0 ≤ p.1 ∧ p.1 < marks.length ∧ 0 ≤ p.2 ∧ p.2 < marks.length ∧ gI marks p.1 < gI marks p.2
theorem Onw.tc {row : List Int} (nd : row.Nodup) {ps : List Pr} (h : Onw row ps) {a b : Int} (t : TC ps a b) : ∃ i j : Int, 0 ≤ i ∧ i < j ∧ j < row.length ∧ a = gI row i ∧ b = gI row j := by
  induction t with
  | base x =>
    obtain ⟨i, j, h1, h2, h3, e⟩ := h _ x
    injection e with e1 e2
    exact ⟨i, j, h1, h2, h3, e1, e2⟩
  | step _ x ih =>
    obtain ⟨i, j, h1, h2, h3, e1, e2⟩ := ih
    obtain ⟨k, l, k1, k2, k3, e⟩ := h _ x
    injection e with e3 e4
    have := gI_inj nd (by omega) h3 k1 (by omega) (e2.symm.trans e3)
    exact ⟨i, l, h1, by omega, k3, e1, e4⟩
theorem Onw.irr {row : List Int} (nd : row.Nodup) {ps : List Pr} (h : Onw row ps) (a : Int) : ¬ TC ps a a := fun t => by
  obtain ⟨i, j, h1, h2, h3, e1, e2⟩ := h.tc nd t
  have := gI_inj nd h1 (by omega) (by omega) h3 (e1.symm.trans e2)
  omega
theorem Onw.rg {n : Nat} {row : List Int} (pm : row.Perm (rng n)) {ps : List Pr} (h : Onw row ps) : Rg n ps := fun p hp => by
  obtain ⟨i, j, h1, h2, h3, e⟩ := h p hp
  rw [e]
  exact ⟨mem_rng.mp (pm.mem_iff.mp (gI_mem h1 (by omega))), mem_rng.mp (pm.mem_iff.mp (gI_mem (by omega) h3))⟩
theorem UpW.irr {marks : List Int} {ps : List Pr} (h : UpW marks ps) (a : Int) : ¬ TC ps a a := fun t => by
  have := t.rank (rk := gI marks) fun p hp => (h p hp).2.2.2.2
  omega
theorem UpW.rg {n : Nat} {marks : List Int} (l : marks.length = n) {ps : List Pr} (h : UpW marks ps) : Rg n ps := fun p hp => by
  have := h p hp
  omega
theorem IsOrd.of_cl {n : Nat} {ps cl : List Pr} (h1 : 1 ≤ n) (h6 : n ≤ 6) (r : Rg n ps) (i : ∀ a, ¬ TC ps a a) (c : Cl ps cl) : IsOrd n cl := ⟨h1, h6, c.rg r, fun a h => i a ((c.mem _ _).mp h), c.trn, c.ris⟩
theorem rangeJ {n : Nat} {i : Int} (h0 : 0 ≤ i) (h1 : i < n) (hn : n ≤ 6) : ∃ js : List Int, Fx.upTo (i + 1) ((n : Int) - (i + 1)).toNat = js.map .int ∧ (∀ j ∈ js, i < j ∧ j < n) ∧ js.length ≤ 5 := by
  refine ⟨_, upTo_from _ _, fun j hj => ?_, by simp; omega⟩
  obtain ⟨k, hk, rfl⟩ := List.mem_map.mp hj
  have := List.mem_range.mp hk
  omega
def envO (s : Sd) (most : Int) (n : Nat) (row : List Int) (way : Int) (ps : List Pr) (marks : List Int) (i j : Option Sv) : En :=
  [some (.o (stV s)), some (.s (.int most)), some (.s (.int n)), some (.s (.list (row.map .int))), some (.s (.int way)), some (.o (.list (ps.map P))), some (.s (.list (marks.map .int))), none, i, j, none]
theorem Lorder_c0 (s : Sd) (most way : Int) {n : Nat} (row : List Int) (hr : row.length = n) (hn : n ≤ 6) : ∃ (marks : List Int) (s' : Sd), marks.length = n ∧
    s_Lorder_c0 [some (.o (stV s)), some (.s (.int most)), some (.s (.int n)), some (.s (.list (row.map .int))), some (.s (.int way)), some (.o (.list [])), none, none, none, none, none] =
      .ok (.list (marks.map .int)) [some (.o (stV s')), some (.s (.int most)), some (.s (.int n)), some (.s (.list (row.map .int))), some (.s (.int way)), some (.o (.list [])), none, none, none, none, none] := by
  obtain ⟨ws, s', _, q, e⟩ := eLC_ex (tg := .n 7) (vs := [7]) (gt := bYes) (fe := eFun f_Ltake [0] (aIo 0 (aCons (eC (.int 3)) aNil))) (it := iSeq (eVar 3)) (fun _ : Sd => True) (fun _ v => ∃ m : Int, v = .int m) PyData.int
    (fun s => [some (.o (stV s)), some (.s (.int most)), some (.s (.int n)), some (.s (.list (row.map .int))), some (.s (.int way)), some (.o (.list [])), none, none, none, none, none]) (xs := row) (ρ := [some (.o (stV s)), some (.s (.int most)), some (.s (.int n)), some (.s (.list (row.map .int))), some (.s (.int way)), some (.o (.list [])), none, none, none, none, none])
    (ρ1 := [some (.o (stV s)), some (.s (.int most)), some (.s (.int n)), some (.s (.list (row.map .int))), some (.s (.int way)), some (.o (.list [])), none, none, none, none, none]) (b := s) (by simp) (by omega) (by simp) trivial
    (fun a _ s _ => ⟨.int (takeR s 3), takeS s 3, trivial, ⟨_, rfl⟩, by simp [lcT, take_eq s 3 (by omega) (by omega)]⟩)
  obtain ⟨ms, e1, e2⟩ := paired_ints q
  refine ⟨ms, s', by rw [e2, hr], ?_⟩
  rw [e1] at e
  unfold s_Lorder_c0
  rw [e]
  simp
theorem five {i : Int} (h0 : 0 ≤ i) (h1 : i < 5) : i = 0 ∨ i = 1 ∨ i = 2 ∨ i = 3 ∨ i = 4 := by omega
theorem Lorder_b1 (s : Sd) (most : Int) {n : Nat} (row : List Int) (way : Int) (ps : List Pr) (marks : List Int) (i j : Int) (hr : row.length = n) (hm : marks.length = n) (hw : 0 ≤ way ∧ way < 5) (hi : 0 ≤ i ∧ i < j) (hj : j < n) (hl : ps.length < 1000) :
    ∃ (s' : Sd) (ps' : List Pr), (ps' = ps ∨ ps' = ps ++ [(gI row i, gI row j)]) ∧ turn (.n 9) (sW [9, 10] s_Lorder_b1) (.int j) (envO s most n row way ps marks (some (.s (.int i))) none) = .nx (envO s' most n row way ps' marks (some (.s (.int i))) none) := by
  have t1 := take_eq s 6 (by omega) (by omega)
  have t2 := take_eq (takeS s 6) 2 (by omega) (by omega)
  have t3 := take_eq (takeS (takeS s 6) 2) 4 (by omega) (by omega)
  have r1 := atI_ints (xs := row) hi.1 (by omega)
  have r2 := atI_ints (xs := row) (i := j) (by omega) (by omega)
  have m1 := atI_ints (xs := marks) hi.1 (by omega)
  have m2 := atI_ints (xs := marks) (i := j) (by omega) (by omega)
  have l : ps.length < 16777216 := by omega
  have key : ∀ b0 b1 b2 b3 b4 : Bool, ∃ b, L2.atI [PyData.bool b0, .bool b1, .bool b2, .bool b3, .bool b4] way = some (.bool b) := by
    intro b0 b1 b2 b3 b4
    rcases five hw.1 hw.2 with h | h | h | h | h <;> rw [h] <;> exact ⟨_, rfl⟩
  obtain ⟨b, hb⟩ := key (decide (takeR s 6 = 0)) (decide (takeR (takeS s 6) 2 = 0)) (decide (0 < takeR (takeS (takeS s 6) 2) 4)) (decide (gI marks i < gI marks j)) (decide (gI marks i = gI marks j))
  cases b with
  | true =>
    refine ⟨takeS (takeS (takeS s 6) 2) 4, ps ++ [(gI row i, gI row j)], .inr rfl, ?_⟩
    simp [turn, s_Lorder_b1, envO, t1, t2, t3, r1, r2, m1, m2, hb, l, P]
  | false =>
    refine ⟨takeS (takeS (takeS s 6) 2) 4, ps, .inl rfl, ?_⟩
    simp [turn, s_Lorder_b1, envO, t1, t2, t3, r1, r2, m1, m2, hb, l]
theorem Onw.snoc {row : List Int} {ps : List Pr} (h : Onw row ps) {i j : Int} (h0 : 0 ≤ i) (h1 : i < j) (h2 : j < row.length) : Onw row (ps ++ [(gI row i, gI row j)]) := fun p hp => by
  rcases List.mem_append.mp hp with hp | hp
  · exact h p hp
  · exact ⟨i, j, h0, h1, h2, List.mem_singleton.mp hp⟩
theorem Lorder_l2 (s : Sd) (most : Int) {n : Nat} (hn : n ≤ 6) (row : List Int) (way : Int) (ps : List Pr) (marks : List Int) (i : Int) (hr : row.length = n) (hm : marks.length = n) (hw : 0 ≤ way ∧ way < 5) (hi : 0 ≤ i ∧ i < n) (hl : ps.length < 900) (ho : Onw row ps) :
    ∃ (s' : Sd) (ps' : List Pr), Onw row ps' ∧ ps'.length ≤ ps.length + 5 ∧ s_Lorder_l2 (envO s most n row way ps marks (some (.s (.int i))) none) = .nx (envO s' most n row way ps' marks (some (.s (.int i))) none) := by
  obtain ⟨js, ej, hj, lj⟩ := rangeJ hi.1 hi.2 hn
  obtain ⟨⟨s', ps'⟩, ⟨_, o, l⟩, e⟩ := forL_exS (tg := .n 9) (g := sW [9, 10] s_Lorder_b1) (α := Int) (β := Sd × List Pr) (fun as b => (∀ j ∈ as, i < j ∧ j < n) ∧ Onw row b.2 ∧ b.2.length + as.length ≤ ps.length + js.length) PyData.int
    (fun b => envO b.1 most n row way b.2 marks (some (.s (.int i))) none) (fun j as b ⟨hj, o, l⟩ => by
      have hj0 := hj j List.mem_cons_self
      rw [List.length_cons] at l
      obtain ⟨s', ps', h1, h2⟩ := Lorder_b1 b.1 most row way b.2 marks i j hr hm hw ⟨hi.1, hj0.1⟩ hj0.2 (by omega)
      refine ⟨(s', ps'), ⟨fun k hk => hj k (List.mem_cons_of_mem _ hk), ?_⟩, h2⟩
      rcases h1 with h1 | h1
      · exact ⟨by rw [h1]; exact o, by simp only [h1]; omega⟩
      · exact ⟨by rw [h1]; exact o.snoc hi.1 hj0.1 (by omega), by simp only [h1, List.length_append, List.length_singleton]; omega⟩) js (s, ps) ⟨hj, ho, Nat.le_refl _⟩
  refine ⟨s', ps', o, by simp only [List.length_nil] at l; omega, ?_⟩
  have c : (-1000000000 : Int) ≤ i + 1 ∧ i + 1 ≤ 1000000000 := by omega
  have d := rngI n (by omega)
  simp only [s_Lorder_l2, sFor]
  rw [show iR2 (aCons (eOp addV (pE (eVar 8) (eC (.int 1)))) (aCons (eVar 2) aNil)) (envO s most n row way ps marks (some (.s (.int i))) none) = .ok (js.map .int) (envO s most n row way ps marks (some (.s (.int i))) none) by simp [envO, c.1, c.2, d.1, d.2, ej]]
  exact e
theorem Lorder_l4 (s : Sd) (most : Int) {n : Nat} (hn : n ≤ 6) (row : List Int) (way : Int) (marks : List Int) (hr : row.length = n) (hm : marks.length = n) (hw : 0 ≤ way ∧ way < 5) :
    ∃ (s' : Sd) (ps' : List Pr), Onw row ps' ∧ s_Lorder_l4 (envO s most n row way [] marks none none) = .nx (envO s' most n row way ps' marks none none) := by
  obtain ⟨⟨s', ps'⟩, ⟨_, o, l⟩, e⟩ := forL_exS (tg := .n 8) (g := sW [8, 9, 10] s_Lorder_b3) (α := Int) (β := Sd × List Pr) (fun as b => (∀ j ∈ as, 0 ≤ j ∧ j < n) ∧ Onw row b.2 ∧ b.2.length + 5 * as.length ≤ 30) PyData.int
    (fun b => envO b.1 most n row way b.2 marks none none) (fun j as b ⟨hj, o, l⟩ => by
      have hj0 := hj j List.mem_cons_self
      rw [List.length_cons] at l
      obtain ⟨s', ps', h1, h3, h2⟩ := Lorder_l2 b.1 most hn row way b.2 marks j hr hm hw hj0 (by omega) o
      refine ⟨(s', ps'), ⟨fun k hk => hj k (List.mem_cons_of_mem _ hk), h1, by simp only; omega⟩, ?_⟩
      simp only [envO] at h2
      simp [turn, s_Lorder_b3, envO, h2]) (rng n) (s, []) ⟨fun j hj => mem_rng.mp hj, fun p hp => (nomatch hp), by simp; omega⟩
  refine ⟨s', ps', o, ?_⟩
  have d := rngI n (by omega)
  simp only [s_Lorder_l4, sFor]
  rw [show iR1 (aCons (eVar 2) aNil) (envO s most n row way [] marks none none) = .ok ((rng n).map .int) (envO s most n row way [] marks none none) by simp [envO, d.1, d.2, upTo_rng]]
  exact e
theorem Lorder_l7 (s : Sd) (most : Int) {n : Nat} (hn : n ≤ 6) (row : List Int) (way : Int) (marks : List Int) (hm : marks.length = n) :
    ∃ ps' : List Pr, UpW marks ps' ∧ s_Lorder_l7 (envO s most n row way [] marks none none) = .nx (envO s most n row way ps' marks none none) := by
  obtain ⟨ps', ⟨_, o, l⟩, e⟩ := forL_exS (tg := .n 8) (g := sW [8] s_Lorder_b6) (α := Int) (β := List Pr) (fun as b => (∀ j ∈ as, 0 ≤ j ∧ j < n) ∧ UpW marks b ∧ b.length + 6 * as.length ≤ 36) PyData.int
    (fun b => envO s most n row way b marks none none) (fun i as b ⟨hj, o, l⟩ => by
      have hi := hj i List.mem_cons_self
      rw [List.length_cons] at l
      have d := rngI n (by omega)
      have m1 := atI_ints (xs := marks) hi.1 (by omega)
      have c : s_Lorder_c5 (envO s most n row way b marks (some (.s (.int i))) none) = .ok (.list (((rng n).filter fun j => decide (gI marks i < gI marks j)).map fun j => P (i, j))) (envO s most n row way b marks (some (.s (.int i))) none) := by
        refine eLC_filt PyData.int (fun j => decide (gI marks i < gI marks j)) (fun j => P (i, j)) (xs := rng n) (ρ1 := envO s most n row way b marks (some (.s (.int i))) none) (by simp [envO, d.1, d.2, upTo_rng]) (by simp; omega) (fun j hj => ?_) (by simp [envO])
        have hj' := mem_rng.mp hj
        have m2 := atI_ints (xs := marks) hj'.1 (by omega)
        by_cases c : gI marks i < gI marks j <;> simp [lcT, envO, m1, m2, c, P]
      have len : ((rng n).filter fun j => decide (gI marks i < gI marks j)).length ≤ 6 := Nat.le_trans (List.length_filter_le _ _) (by simp; omega)
      refine ⟨b ++ ((rng n).filter fun j => decide (gI marks i < gI marks j)).map fun j => (i, j), ⟨fun k hk => hj k (List.mem_cons_of_mem _ hk), fun p hp => ?_, by simp only [List.length_append, List.length_map]; omega⟩, ?_⟩
      · rcases List.mem_append.mp hp with hp | hp
        · exact o p hp
        · obtain ⟨j, hj, rfl⟩ := List.mem_map.mp hp
          obtain ⟨h1, h2⟩ := List.mem_filter.mp hj
          have := mem_rng.mp h1
          have := of_decide_eq_true h2
          simp only
          omega
      · have l3 : b.length + ((rng n).filter fun j => decide (gI marks i < gI marks j)).length ≤ 16777216 := by omega
        simp only [envO] at c
        simp [turn, s_Lorder_b6, envO, c, l3]) (rng n) [] ⟨fun j hj => mem_rng.mp hj, fun p hp => (nomatch hp), by simp; omega⟩
  refine ⟨ps', o, ?_⟩
  have d := rngI n (by omega)
  simp only [s_Lorder_l7, sFor]
  rw [show iR1 (aCons (eVar 2) aNil) (envO s most n row way [] marks none none) = .ok ((rng n).map .int) (envO s most n row way [] marks none none) by simp [envO, d.1, d.2, upTo_rng]]
  exact e
theorem many_of (most d : Int) (h0 : 1 ≤ most) (h6 : most ≤ 6) (d0 : 0 ≤ d) : ∃ n : Nat, 1 ≤ n ∧ (n : Int) ≤ most ∧ (if 1 < most - d then most - d else 1) = (n : Int) :=
  ⟨(if 1 < most - d then most - d else 1).toNat, by split <;> omega, by split <;> omega, by split <;> omega⟩
theorem eight {i : Int} (h0 : 0 ≤ i) (h1 : i < 8) : i = 0 ∨ i = 1 ∨ i = 2 ∨ i = 3 ∨ i = 4 ∨ i = 5 ∨ i = 6 ∨ i = 7 := by omega
theorem Lorder_eq (s : Sd) (most : Int) (h0 : 1 ≤ most) (h6 : most ≤ 6) : ∃ (n : Nat) (ps : List Pr) (s' : Sd), IsOrd n ps ∧ (n : Int) ≤ most ∧ f_Lorder [stV s, .int most] = .ret (ordV n ps) [stV s'] := by
  have t1 := take_eq s 8 (by omega) (by omega)
  obtain ⟨d, d0, hd⟩ : ∃ d : Int, 0 ≤ d ∧ L2.atI [PyData.int 0, .int 0, .int 1, .int 2, .int 0, .int 3, .int 1, .int 4] (takeR s 8) = some (.int d) := by
    obtain ⟨b0, b1⟩ := takeR_bd s (m := 8) (by omega)
    rcases eight b0 b1 with h | h | h | h | h | h | h | h <;> rw [h] <;> exact ⟨_, by decide, rfl⟩
  obtain ⟨n, n1, nm, en⟩ := many_of most d h0 h6 d0
  obtain ⟨row, s2, pm, e2⟩ := mixed_row_eq (takeS s 8) (rng n) (by simp; omega)
  have hr : row.length = n := by rw [pm.length_eq, rng_length]
  have t3 := take_eq s2 5 (by omega) (by omega)
  have hw := takeR_bd s2 (m := 5) (by omega)
  obtain ⟨marks, s4, hm, e4⟩ := Lorder_c0 (takeS s2 5) most (takeR s2 5) row hr (by omega)
  obtain ⟨s5, ps, o, e5⟩ := Lorder_l4 s4 most (by omega : n ≤ 6) row (takeR s2 5) marks hr hm hw
  have dn : (-1000000 : Int) ≤ n ∧ (n : Int) ≤ 1000000 := by omega
  have nd : row.Nodup := pm.nodup_iff.mpr (rng_nodup n)
  simp only [envO] at e5
  by_cases w3 : takeR s2 5 = 3
  · obtain ⟨qs, o7, e7⟩ := Lorder_l7 s5 most (by omega : n ≤ 6) row (takeR s2 5) marks hm
    obtain ⟨cl, c, ec⟩ := Lclosed_eq (n := n) (by omega) (o7.rg hm) (.inl rfl : isSeq (.list (qs.map P)) (qs.map P))
    refine ⟨n, cl, s5, .of_cl n1 (by omega) (o7.rg hm) o7.irr c, nm, ?_⟩
    rw [f_Lorder_eq]
    simp only [envO] at e7
    rw [w3] at e4 e5 e7
    simp only [List.map_nil] at e5 e7
    simp [s_Lorder, t1, hd, en, dn.1, dn.2, upTo_rng, e2, t3, w3, e4, e5, e7, ec, ordV]
  · obtain ⟨cl, c, ec⟩ := Lclosed_eq (n := n) (by omega) (o.rg pm) (.inl rfl : isSeq (.list (ps.map P)) (ps.map P))
    refine ⟨n, cl, s5, .of_cl n1 (by omega) (o.rg pm) (o.irr nd) c, nm, ?_⟩
    rw [f_Lorder_eq]
    simp only [List.map_nil] at e5
    simp [s_Lorder, t1, hd, en, dn.1, dn.2, upTo_rng, e2, t3, w3, e4, e5, ec, ordV]
end Fn
namespace Fn
open PySem PySem.Spec PyProof.Rows L2 Fx
end Fn
namespace Fn
open PySem PySem.Spec PyProof.Rows L2 Fx
end Fn
namespace Fn
open PySem PySem.Spec PyProof.Rows L2 Fx
end Fn
namespace Fn
open PySem PySem.Spec PyProof.Rows L2 Fx
def itCells (N : Int) : En → RE (List PV) := iR1 (aCons (eCal max2V (aCons (eC (.int 1)) (aCons (eCal min2V (aCons (eCal lenV (aCons (eVar 0) aNil)) (aCons (eC (.int N)) aNil))) aNil))) aNil)
theorem it_cells (ns : List Int) (N : Int) (h0 : 0 ≤ N) (h1 : N ≤ 1000) (r : En) : ∃ m : Nat, itCells N (some (.s (scr ns)) :: r) = .ok ((rng m).map .int) (some (.s (scr ns)) :: r) := by
  refine ⟨(if 1 < (if N < ns.length then N else (ns.length : Int)) then (if N < ns.length then N else (ns.length : Int)) else 1).toNat, ?_⟩
  have c : ∀ j : Int, j = (if 1 < (if N < ns.length then N else (ns.length : Int)) then (if N < ns.length then N else (ns.length : Int)) else 1) → -1000000000 ≤ j ∧ j ≤ 1000000000 := by
    intro j hj
    rw [hj]; split <;> split <;> omega
  have d := c _ rfl
  simp [itCells, scr]
  simp [d.1, d.2, upTo_rng]
theorem cells_loop (ns : List Int) (N : Int) (h0 : 0 ≤ N) (h1 : N ≤ 1000) {i : Nat} {g : En → SR} {r : En} (h : ∀ k : Nat, turn (.n i) g (.int k) (some (.s (scr ns)) :: r) = .nx (some (.s (scr ns)) :: r)) :
    sFor (.n i) (itCells N) g (some (.s (scr ns)) :: r) = .nx (some (.s (scr ns)) :: r) := by
  obtain ⟨m, e⟩ := it_cells ns N h0 h1 r
  unfold sFor
  rw [e]
  refine forL_same PyData.int (rng m) fun a ha => ?_
  have := mem_rng.mp ha
  have q := h a.toNat
  rw [show ((a.toNat : Nat) : Int) = a by omega] at q
  exact q
@[simp] theorem eqP_bool (a b : Bool) : eqP (.bool a) (.bool b) = some (decide (a = b)) := by cases a <;> cases b <;> rfl
@[simp] theorem neP_bool (a b : Bool) : neP (.bool a) (.bool b) = some (!decide (a = b)) := by simp [neP]
@[simp] theorem eqP_none : eqP .none .none = some true := rfl
@[simp] theorem eqP_str (a b : Str) : eqP (.str a) (.str b) = some (a == b) := rfl
end Fn
namespace Fn
open PySem PySem.Spec PyProof.Rows L2 Fx
end Fn
namespace Fn
open PySem PySem.Spec PyProof.Rows L2 Fx
theorem step {g h : En → SR} {ρ ρ1 : En} {r : SR} (e : g ρ = .nx ρ1) (k : h ρ1 = r) : sSeq g h ρ = r := by unfold sSeq; rw [e]; exact k
theorem okvs_of {xs : List PV} (h : ∀ x ∈ xs, okv x = true) : okvs xs = true := by
  induction xs with
  | nil => rfl
  | cons x xs ih => simp only [okvs, Bool.and_eq_true]; exact ⟨h x List.mem_cons_self, ih fun y hy => h y (List.mem_cons_of_mem _ hy)⟩
theorem okvs_P (ps : List Pr) : okvs (ps.map P) = true := okvs_of fun x hx => by obtain ⟨p, _, rfl⟩ := List.mem_map.mp hx; rfl
theorem okvs_I (ps : List Int) : okvs (ps.map .int) = true := okvs_of fun x hx => by obtain ⟨p, _, rfl⟩ := List.mem_map.mp hx; rfl
theorem okv_t {xs : List PV} (h : okvs xs = true) (l : xs.length ≤ 1000000) : okv (.tuple xs) = true := by simp [okv, h, l]
theorem num_nat {n : Nat} (h1 : 1 ≤ n) (h6 : n ≤ 6) : f_is_number [.int n] = .ret (.bool true) [] := by
  rw [is_number_eq rfl]
  have a : (1 : Int) ≤ n := by omega
  have b : (n : Int) ≤ 6 := by omega
  simp [a, b]
theorem order_c0 {n : Nat} {xs : List PV} (hl : xs.length ≤ 1000000) (hx : ∀ x ∈ xs, okv x = true) : s_order_of_c0 [some (.s (.int n)), some (.s (.list xs)), none, none, none, none] = .ok (.list (xs.map fun q => .bool (pairB n q))) [some (.s (.int n)), some (.s (.list xs)), none, none, none, none] := by
  refine eLC_map (fun x => x) (fun x => .bool (pairB n x)) (xs := xs) (ρ1 := [some (.s (.int n)), some (.s (.list xs)), none, none, none, none]) (by simp) (by omega) (fun x hx' => ?_) (by simp)
  simp [lcT, is_pair_eq (hx x hx'), -pairB]
theorem pairB_all {n : Nat} {ps : List Pr} (r : Rg n ps) : (ps.map P).all (pairB n) = true := by
  rw [List.all_map, List.all_eq_true]
  intro p hp
  have := r p hp
  simp [P]; omega
theorem order_of_list {n : Nat} (h1 : 1 ≤ n) (h6 : n ≤ 6) {ps : List Pr} (r : Rg n ps) (hl : ps.length ≤ 1000) : ∃ cl, Cl ps cl ∧
    ((∃ a, (a, a) ∈ cl) → f_order_of [.int n, .list (ps.map P)] = .exc 3 []) ∧ ((∀ a, (a, a) ∉ cl) → f_order_of [.int n, .list (ps.map P)] = .ret (ordV n cl) []) := by
  obtain ⟨cl, c, e⟩ := closed_eq h6 r (by omega) (.inl rfl : isSeq (.list (ps.map P)) (ps.map P))
  have lc := Nat.le_trans (few (c.rg r) c.ris.nodup) (sq_le h6)
  have ok : ∀ x ∈ ps.map P, okv x = true := fun x hx => okvs_mem (okvs_P ps) x hx
  have c0 := order_c0 (n := n) (xs := ps.map P) (by simp; omega) ok
  have k : ((ps.map P).map fun q => PyData.bool (pairB n q)) = ps.map fun p => PyData.bool (pairB n (P p)) := by rw [List.map_map]; rfl
  rw [k] at c0
  have g : (ps.all fun p => pairB n (P p)) = true := by have := pairB_all r; rwa [List.all_map] at this
  have c1 : s_order_of_c1 [some (.s (.int n)), some (.s (.list (ps.map P))), none, some (.s (.list (cl.map P))), none, none] = .ok (.list (cl.map fun p => .bool (decide (p.1 = p.2)))) [some (.s (.int n)), some (.s (.list (ps.map P))), none, some (.s (.list (cl.map P))), none, none] := by
    refine eLC_map P (fun p => .bool (decide (p.1 = p.2))) (xs := cl) (ρ1 := [some (.s (.int n)), some (.s (.list (ps.map P))), none, some (.s (.list (cl.map P))), none, none]) (by simp) (by omega) (fun p _ => ?_) (by simp)
    simp [lcT, P]
  have il : isiP "list" (.list (ps.map P)) = some true := rfl
  refine ⟨cl, c, fun ⟨a, ha⟩ => ?_, fun hn => ?_⟩
  · have a1 : (cl.any fun p => decide (p.1 = p.2)) = true := List.any_eq_true.mpr ⟨_, ha, by simp⟩
    rw [f_order_of_eq]
    simp [s_order_of, num_nat h1 h6, il, c0, g, e, c1, a1, -pairB]
  · have a1 : (cl.any fun p => decide (p.1 = p.2)) = false := by
      rw [List.any_eq_false]
      intro p hp
      have : p.1 ≠ p.2 := fun z => hn p.1 (by have : p = (p.1, p.1) := Prod.ext rfl z.symm; rw [← this]; exact hp)
      simpa using this
    rw [f_order_of_eq]
    simp [s_order_of, num_nat h1 h6, il, c0, g, e, c1, a1, ordV, -pairB]
end Fn
namespace Fn
open PySem PySem.Spec PyProof.Rows L2 Fx
end Fn
namespace Fn
open PySem PySem.Spec PyProof.Rows L2 Fx
end Fn
namespace Fn
open PySem PySem.Spec PyProof.Rows L2 Fx
@[simp] theorem niP_two (t a b : Int) : niP (.int t) (.tuple [.int a, .int b]) = some (!(decide (t = a) || decide (t = b))) := by
  have := niP_intsT t [a, b]
  simp only [List.map_cons, List.map_nil, List.mem_cons, List.not_mem_nil, or_false] at this
  rw [this, Bool.decide_or]
@[simp] theorem inP_two (t a b : Int) : inP (.int t) (.tuple [.int a, .int b]) = some (decide (t = a) || decide (t = b)) := by
  have := inP_intsT t [a, b]
  simp only [List.map_cons, List.map_nil, List.mem_cons, List.not_mem_nil, or_false] at this
  rw [this, Bool.decide_or]
def dn (t x : Int) : Int := x - if t < x then 1 else 0
theorem indexT {xs : List Int} {a : Int} (h : a ∈ xs) : indexV (.tuple (xs.map .int)) [.int a] = some (.int (xs.idxOf a : Nat)) := by
  simp [indexV, idxIn, h]
end Fn
namespace Fn
open PySem PySem.Spec PyProof.Rows L2 Fx
end Fn
namespace Fn
open PySem PySem.Spec PyProof.Rows L2 Fx
end Fn
namespace Fn
open PySem PySem.Spec PyProof.Rows L2 Fx
def rngA (a : Int) (n : Nat) : List Int := (List.range ((n : Int) - a).toNat).map fun i : Nat => a + (i : Int)
theorem upTo_rngA (a : Int) (n : Nat) : Fx.upTo a ((n : Int) - a).toNat = (rngA a n).map PyData.int := upTo_from _ _
theorem mem_rngA {a : Int} {n : Nat} {i : Int} : i ∈ rngA a n ↔ a ≤ i ∧ i < n := by
  unfold rngA
  rw [List.mem_map]
  constructor
  · rintro ⟨k, hk, rfl⟩; have := List.mem_range.mp hk; omega
  · rintro ⟨h0, h1⟩; exact ⟨(i - a).toNat, List.mem_range.mpr (by omega), by omega⟩
theorem rngA_len (a : Int) (n : Nat) (h : 0 ≤ a) : (rngA a n).length ≤ n := by simp [rngA]; omega
/-- neither ahead of the other -/
def nr (ps : List Pr) (a b : Int) : Bool := !decide ((a, b) ∈ ps) && !decide ((b, a) ∈ ps)
def lsB (ps : List Pr) (a b : Int) : Bool := !decide (a = b) && nr ps a b
theorem are_loose_eq (n : Nat) (ps : List Pr) (a b : Int) : f_are_loose [ordV n ps, .int a, .int b] = .ret (.bool (lsB ps a b)) [] := by
  rw [f_are_loose_eq]
  by_cases c1 : a = b
  · simp [s_are_loose, lsB, c1]
  · by_cases c2 : (a, b) ∈ ps
    · simp [s_are_loose, lsB, nr, c1, c2, ordV, L2.atI, L2.ixN]
    · by_cases c3 : (b, a) ∈ ps <;> simp [s_are_loose, lsB, nr, c1, c2, c3, ordV, L2.atI, L2.ixN]
def looseAt (n : Nat) (ps : List Pr) (a : Int) : List Pr := ((rngA (a + 1) n).filter fun b => nr ps a b).map fun b => (a, b)
def allL (n : Nat) (ps : List Pr) : List Pr := (rng n).flatMap (looseAt n ps)
theorem mem_allL {n : Nat} {ps : List Pr} {p : Pr} : p ∈ allL n ps ↔ 0 ≤ p.1 ∧ p.1 < p.2 ∧ p.2 < n ∧ (p.1, p.2) ∉ ps ∧ (p.2, p.1) ∉ ps := by
  unfold allL looseAt
  simp only [List.mem_flatMap, List.mem_map, List.mem_filter, mem_rng, mem_rngA, nr, Bool.and_eq_true, Bool.not_eq_true', decide_eq_false_iff_not]
  constructor
  · rintro ⟨a, h1, b, ⟨h2, h3⟩, rfl⟩; simp only; exact ⟨h1.1, by omega, h2.2, h3.1, h3.2⟩
  · rintro ⟨h1, h2, h3, h4, h5⟩; exact ⟨p.1, ⟨h1, by omega⟩, p.2, ⟨⟨by omega, h3⟩, h4, h5⟩, rfl⟩
theorem allL_rg (n : Nat) (ps : List Pr) : Rg n (allL n ps) := fun p hp => by have := mem_allL.mp hp; omega
theorem looseAt_len {n : Nat} (ps : List Pr) {a : Int} (h : 0 ≤ a) : (looseAt n ps a).length ≤ n := by
  unfold looseAt
  rw [List.length_map]
  exact Nat.le_trans (List.length_filter_le _ _) (rngA_len _ _ (by omega))
theorem flat_len {α β : Type} {f : α → List β} {k : Nat} : ∀ {xs : List α}, (∀ a ∈ xs, (f a).length ≤ k) → (xs.flatMap f).length ≤ xs.length * k
  | [], _ => by simp
  | x :: xs, h => by
    rw [List.flatMap_cons, List.length_append, List.length_cons, Nat.succ_mul]
    have := h x List.mem_cons_self
    have := flat_len (xs := xs) fun a ha => h a (List.mem_cons_of_mem _ ha)
    omega
theorem allL_len (n : Nat) (ps : List Pr) : (allL n ps).length ≤ n * n := by
  have := flat_len (f := looseAt n ps) (k := n) (xs := rng n) fun a ha => looseAt_len ps (mem_rng.mp ha).1
  rwa [rng_length] at this
theorem fold_app {α β : Type} (f : α → List β) : ∀ (xs : List α) (l : List β), xs.foldl (fun l a => l ++ f a) l = l ++ xs.flatMap f
  | [], l => by simp
  | x :: xs, l => by rw [List.foldl_cons, fold_app f xs, List.flatMap_cons, List.append_assoc]
theorem all_loose_eq {n : Nat} (hn : n ≤ 6) (ps : List Pr) : f_all_loose [ordV n ps] = .ret (.list ((allL n ps).map P)) [] := by
  have d := rngI n (by omega)
  have l2 := sq_le hn
  have e := (forL_foldS (tg := .n 2) (g := sW [2] s_all_loose_b1) (α := Int) (β := List Pr) (fun as b => (∀ a ∈ as, 0 ≤ a ∧ a < n) ∧ b.length + n * as.length ≤ n * n) PyData.int (fun b => [some (.s (ordV n ps)), some (.o (.list (b.map P))), none, none]) (fun b a => b ++ looseAt n ps a) (fun a as b ⟨ha, hl⟩ => by
    have ha0 := ha a List.mem_cons_self
    rw [List.length_cons, Nat.mul_succ] at hl
    have ll := looseAt_len (n := n) ps ha0.1
    refine ⟨?_, fun x hx => ha x (List.mem_cons_of_mem _ hx), by rw [List.length_append]; omega⟩
    have c : s_all_loose_c0 [some (.s (ordV n ps)), some (.o (.list (b.map P))), some (.s (.int a)), none] = .ok (.list ((looseAt n ps a).map P)) [some (.s (ordV n ps)), some (.o (.list (b.map P))), some (.s (.int a)), none] := by
      unfold looseAt
      rw [List.map_map]
      have c1 : -1000000000 ≤ a + 1 ∧ a + 1 ≤ 1000000000 := by omega
      refine eLC_filt PyData.int (fun b => nr ps a b) (fun x => P (a, x)) (xs := rngA (a + 1) n) (ρ1 := [some (.s (ordV n ps)), some (.o (.list (b.map P))), some (.s (.int a)), none]) (by simp [ordV, L2.atI, L2.ixN, c1.1, c1.2, d.1, d.2, upTo_rngA]) (by have := rngA_len (a + 1) n (by omega); omega) (fun x hx => ?_) (by simp)
      have := mem_rngA.mp hx
      have ne : ¬ a = x := by omega
      have e := are_loose_eq n ps a x
      by_cases c : nr ps a x = true
      · simp [lcT, e, lsB, ne, c, P]
      · simp [lcT, e, lsB, ne, c]
    have l3 : b.length + (looseAt n ps a).length ≤ 16777216 := by omega
    simp [turn, s_all_loose_b1, c, l3]) (rng n) [] ⟨fun a ha => mem_rng.mp ha, by simp⟩).1
  have e : forL (.n 2) (sW [2] s_all_loose_b1) ((rng n).map .int) [some (.s (ordV n ps)), some (.o (.list [])), none, none] = .nx [some (.s (ordV n ps)), some (.o (.list ((allL n ps).map P))), none, none] := by
    rw [fold_app, List.nil_append] at e
    exact e
  have l2' : s_all_loose_l2 [some (.s (ordV n ps)), some (.o (.list [])), none, none] = .nx [some (.s (ordV n ps)), some (.o (.list ((allL n ps).map P))), none, none] := by
    simp only [s_all_loose_l2, sFor]
    rw [show iR1 (aCons (eOp idxV (pE (eVar 0) (eC (.int 0)))) aNil) [some (.s (ordV n ps)), some (.o (.list [])), none, none] = .ok ((rng n).map .int) [some (.s (ordV n ps)), some (.o (.list [])), none, none] by simp [ordV, L2.atI, L2.ixN, d.1, d.2, upTo_rng]]
    exact e
  rw [f_all_loose_eq]
  simp [s_all_loose, l2']
end Fn
namespace Fn
open PySem PySem.Spec PyProof.Rows L2 Fx
end Fn
namespace Fn
open PySem PySem.Spec PyProof.Rows L2 Fx
end Fn
namespace Fn
open PySem PySem.Spec PyProof.Rows L2 Fx
end Fn
namespace Fn
open PySem PySem.Spec PyProof.Rows L2 Fx
end Fn
namespace Fn
open PySem PySem.Spec PyProof.Rows L2 Fx
end Fn
namespace Fn
open PySem PySem.Spec PyProof.Rows L2 Fx
end Fn
namespace Fn
open PySem PySem.Spec PyProof.Rows L2 Fx
abbrev Lf := Int × Int × Int
structure Sol (n : Nat) (C : List Lf) (σ : List Int) : Prop where
  len : σ.length = n
  pos : ∀ i : Int, 0 ≤ i → i < n → 0 ≤ gI σ i
  up : ∀ c ∈ C, gI σ c.1 + c.2.2 ≤ gI σ c.2.1
def below (n : Nat) (σ : List Int) : Prop := ∀ i : Int, 0 ≤ i → i < n → gI σ i < n
inductive LeastR (n : Nat) (C : List Lf) : Option (List Int) → Prop
  | some {σ : List Int} : Sol n C σ → below n σ → (∀ τ, Sol n C τ → ∀ i : Int, 0 ≤ i → i < n → gI σ i ≤ gI τ i) → LeastR n C (some σ)
  | none : (∀ τ, Sol n C τ → ¬ below n τ) → LeastR n C none
theorem gI_ext {σ τ : List Int} (l : σ.length = τ.length) (h : ∀ i : Int, 0 ≤ i → i < σ.length → gI σ i = gI τ i) : σ = τ := by
  refine List.ext_getElem l fun i h1 h2 => ?_
  have := h i (by omega) (by omega)
  unfold gI at this
  rw [List.getD_eq_getElem?_getD, List.getD_eq_getElem?_getD, Int.toNat_natCast, List.getElem?_eq_getElem h1, List.getElem?_eq_getElem h2] at this
  exact this
theorem LeastR.unique {n : Nat} {C D : List Lf} (e : ∀ c, c ∈ C ↔ c ∈ D) {x y : Option (List Int)} (h : LeastR n C x) (k : LeastR n D y) : x = y := by
  have cd : ∀ {τ}, Sol n C τ ↔ Sol n D τ := fun {τ} => ⟨fun s => ⟨s.len, s.pos, fun c hc => s.up c ((e c).mpr hc)⟩, fun s => ⟨s.len, s.pos, fun c hc => s.up c ((e c).mp hc)⟩⟩
  cases h with
  | some s1 b1 m1 =>
    cases k with
    | some s2 b2 m2 =>
      congr 1
      refine gI_ext (by rw [s1.len, s2.len]) fun i h0 h1 => ?_
      rw [s1.len] at h1
      exact Int.le_antisymm (m1 _ (cd.mpr s2) i h0 h1) (m2 _ (cd.mp s1) i h0 h1)
    | none q => exact absurd b1 (q _ (cd.mp s1))
  | none p =>
    cases k with
    | some s2 b2 m2 => exact absurd b2 (p _ (cd.mpr s2))
    | none q => rfl
end Fn
namespace Fn
open PySem PySem.Spec PyProof.Rows L2 Fx
def liftL (n : Nat) (ps : List Pr) (r : Int) : List Lf := ps.map (fun p => (p.1, p.2, 1)) ++ (allL n ps).flatMap fun p => [(p.1, p.2, 0 - r), (p.2, p.1, 0 - r)]
theorem mem_liftL {n : Nat} {ps : List Pr} {r : Int} {c : Lf} : c ∈ liftL n ps r ↔ ((c.1, c.2.1) ∈ ps ∧ c.2.2 = 1) ∨ (c.2.2 = 0 - r ∧ ((c.1, c.2.1) ∈ allL n ps ∨ (c.2.1, c.1) ∈ allL n ps)) := by
  unfold liftL
  simp only [List.mem_append, List.mem_map, List.mem_flatMap, List.mem_cons, List.not_mem_nil, or_false]
  constructor
  · rintro (⟨p, h, rfl⟩ | ⟨p, h, rfl | rfl⟩)
    · exact .inl ⟨h, rfl⟩
    · exact .inr ⟨rfl, .inl h⟩
    · exact .inr ⟨rfl, .inr h⟩
  · rintro (⟨h, e⟩ | ⟨e, h | h⟩)
    · exact .inl ⟨_, h, by rw [← e]⟩
    · exact .inr ⟨_, h, .inl (by rw [← e])⟩
    · exact .inr ⟨_, h, .inr (by rw [← e])⟩
end Fn
namespace Fn
open PySem PySem.Spec PyProof.Rows L2 Fx
def holdJ (σ : List Int) (u : List Int) (c : Lf) : List Int := u.set c.2.1.toNat (if gI u c.2.1 < gI σ c.1 + c.2.2 then gI σ c.1 + c.2.2 else gI u c.2.1)
def liftJ (n : Nat) (ps : List Pr) (r : Int) : List Lf := ps.map (fun p => (p.1, p.2, 1)) ++ (allL n ps).flatMap fun p => [(p.2, p.1, -r), (p.1, p.2, -r)]
theorem LeastR.congr {n : Nat} {C D : List Lf} (e : ∀ c, c ∈ C ↔ c ∈ D) {x : Option (List Int)} (h : LeastR n C x) : LeastR n D x := by
  have cd : ∀ {τ}, Sol n D τ → Sol n C τ := fun {τ} s => ⟨s.len, s.pos, fun c hc => s.up c ((e c).mp hc)⟩
  cases h with
  | some s b m => exact .some ⟨s.len, s.pos, fun c hc => s.up c ((e c).mpr hc)⟩ b fun τ t => m τ (cd t)
  | none p => exact .none fun τ t => p τ (cd t)
end Fn
namespace Fn
open PySem PySem.Spec PyProof.Rows L2 Fx
def J (n : Nat) (ps : List Pr) (r : Int) (σ : List Int) : List Int := (liftJ n ps r).foldl (holdJ σ) σ
theorem zeros (n : Nat) : (List.replicate n [PyData.int 0]).flatten = (List.replicate n (0 : Int)).map .int := by induction n with | zero => rfl | succ n ih => simp [List.replicate_succ]
theorem sFor_eq {tg : Tg} {it : En → RE (List PV)} {g : En → SR} {ρ ρ1 : En} {xs : List PV} (h : it ρ = .ok xs ρ1) : sFor tg it g ρ = forL tg g xs ρ1 := by unfold sFor; rw [h]
theorem iR1_of {fa : En → RE (List PV)} {ρ ρ1 : En} {m : Nat} (h : fa ρ = .ok [.int (m : Int)] ρ1) (hm : m ≤ 1000) : iR1 fa ρ = .ok ((rng m).map .int) ρ1 := by
  have q : (-1000000000 : Int) ≤ (m : Int) ∧ (m : Int) ≤ 1000000000 := by omega
  unfold iR1
  rw [h]
  simp only [RE.bind]
  rw [if_pos q, Int.toNat_natCast, upTo_rng]
theorem mulL_zero {n : Nat} (h : n ≤ 1000) : mulL (.list [.int 0]) (.int n) = some (.list ((List.replicate n (0 : Int)).map .int)) := by
  have q : (-1000000 : Int) ≤ n ∧ (n : Int) ≤ 1000000 ∧ [PyData.int 0].length * (n : Int).toNat ≤ 16777216 := ⟨by omega, by omega, by simp; omega⟩
  simp only [mulL]
  rw [if_pos q, Int.toNat_natCast, zeros]
def cnt (n : Nat) (ps : List Pr) (x : Int) : Nat := ((rng n).filter fun a => decide ((a, x) ∈ ps)).length
theorem cnt_lt {n : Nat} {ps : List Pr} (o : IsOrd n ps) {a b : Int} (h : (a, b) ∈ ps) : cnt n ps a + 1 ≤ cnt n ps b := by
  unfold cnt
  have ra := (o.rg _ h).1
  have nd : (a :: (rng n).filter fun c => decide ((c, a) ∈ ps)).Nodup := List.nodup_cons.mpr ⟨fun m => o.irr a (of_decide_eq_true (List.mem_filter.mp m).2), (rng_nodup n).filter _⟩
  have := nodup_le (m := (rng n).filter fun c => decide ((c, b) ∈ ps)) nd fun x hx => by
    rcases List.mem_cons.mp hx with rfl | hx
    · exact List.mem_filter.mpr ⟨mem_rng.mpr ra, by simpa using h⟩
    · obtain ⟨m1, m2⟩ := List.mem_filter.mp hx
      exact List.mem_filter.mpr ⟨m1, by simpa using o.trn _ _ _ (of_decide_eq_true m2) h⟩
  simpa using this
structure MinReach (n : Nat) (ps : List Pr) (r : Nat) : Prop where
  is : ∃ σ, LeastR n (liftL n ps r) (some σ)
  no : ∀ k : Nat, k < r → LeastR n (liftL n ps k) none
theorem MinReach.unique {n : Nat} {ps : List Pr} {r k : Nat} (h : MinReach n ps r) (g : MinReach n ps k) : r = k := by
  rcases Nat.lt_trichotomy r k with l | l | l
  · obtain ⟨σ, s⟩ := h.is
    exact absurd (s.unique (fun _ => Iff.rfl) (g.no r l)) (by simp)
  · exact l
  · obtain ⟨σ, s⟩ := g.is
    exact absurd (s.unique (fun _ => Iff.rfl) (h.no k l)) (by simp)
end Fn
namespace Fn
open PySem PySem.Spec PyProof.Rows L2 Fx
end Fn
namespace Fn
open PySem PySem.Spec PyProof.Rows L2 Fx
end Fn
namespace Fn
open PySem PySem.Spec PyProof.Rows L2 Fx
end Fn
namespace Fn
open PySem PySem.Spec PyProof.Rows L2 Fx
def tpI (xs : List Int) : PV := .tuple (xs.map .int)
structure IsSeat (n : Nat) (ps : List Pr) (row : List Int) : Prop where
  len : row.length = n
  rg : ∀ x ∈ row, 0 ≤ x ∧ x < n
  up : ∀ p ∈ ps, gI row p.1 < gI row p.2
theorem ints_of_things {n : Int} : ∀ {xs : List PV}, xs.all (thingB n) = true → ∃ row : List Int, xs = row.map .int ∧ ∀ x ∈ row, 0 ≤ x ∧ x < n
  | [], _ => ⟨[], rfl, fun _ h => nomatch h⟩
  | x :: xs, h => by
    simp only [List.all_cons, Bool.and_eq_true] at h
    obtain ⟨row, e, r⟩ := ints_of_things h.2
    have h1 := h.1
    unfold thingB at h1
    split at h1
    · rename_i i
      simp only [Bool.and_eq_true, decide_eq_true_eq] at h1
      refine ⟨i :: row, by rw [e]; rfl, fun y hy => ?_⟩
      rcases List.mem_cons.mp hy with rfl | hy
      · exact h1
      · exact r y hy
    · cases h1
theorem things_all {n : Int} {row : List Int} (h : ∀ x ∈ row, 0 ≤ x ∧ x < n) : (row.map PyData.int).all (thingB n) = true := by
  rw [List.all_map, List.all_eq_true]
  intro x hx
  have := h x hx
  simp; omega
theorem int_inj : ∀ {a b : List Int}, a.map PyData.int = b.map PyData.int → a = b
  | [], [], _ => rfl
  | [], _ :: _, h => nomatch h
  | _ :: _, [], h => nomatch h
  | x :: a, y :: b, h => by
    injection h with h1 h2
    injection h1 with h1
    rw [h1, int_inj h2]
def absI (i : Int) : Int := if i < 0 then -i else i
def mx0 (L : List Int) : Int := L.foldl max 0
def farL (n : Nat) (ps : List Pr) (row : List Int) : List Int := (allL n ps).map fun p => absI (gI row p.1 - gI row p.2)
def reachI (n : Nat) (ps : List Pr) (row : List Int) : Int := mx0 (farL n ps row)
theorem foldl_max_iff (L : List Int) (a k : Int) : L.foldl max a ≤ k ↔ a ≤ k ∧ ∀ x ∈ L, x ≤ k := by
  induction L generalizing a with
  | nil => simp
  | cons b L ih =>
    rw [List.foldl_cons, ih]
    simp only [List.mem_cons, forall_eq_or_imp]
    constructor
    · rintro ⟨h1, h2⟩; exact ⟨by omega, by omega, h2⟩
    · rintro ⟨h1, h2, h3⟩; exact ⟨by omega, h3⟩
theorem reachI_le {n : Nat} {ps : List Pr} {row : List Int} {k : Int} : reachI n ps row ≤ k ↔ 0 ≤ k ∧ ∀ p ∈ allL n ps, absI (gI row p.1 - gI row p.2) ≤ k := by
  unfold reachI mx0
  rw [foldl_max_iff]
  refine and_congr Iff.rfl ⟨fun h p hp => h _ (List.mem_map.mpr ⟨p, hp, rfl⟩), fun h x hx => ?_⟩
  obtain ⟨p, hp, rfl⟩ := List.mem_map.mp hx
  exact h p hp
theorem absI_le {i k : Int} : absI i ≤ k ↔ -k ≤ i ∧ i ≤ k := by unfold absI; split <;> omega
theorem sol_iff {n : Nat} {ps : List Pr} {r : Int} (hr : 0 ≤ r) {τ : List Int} : (Sol n (liftL n ps r) τ ∧ below n τ) ↔ IsSeat n ps τ ∧ reachI n ps τ ≤ r := by
  rw [reachI_le]
  constructor
  · rintro ⟨s, b⟩
    refine ⟨⟨s.len, fun x hx => ?_, fun p hp => ?_⟩, hr, fun p hp => ?_⟩
    · obtain ⟨i, hi, rfl⟩ := List.mem_iff_getElem.mp hx
      have l := s.len
      have a := s.pos i (by omega) (by omega)
      have c := b i (by omega) (by omega)
      unfold gI at a c
      rw [List.getD_eq_getElem?_getD, Int.toNat_natCast, List.getElem?_eq_getElem hi] at a c
      exact ⟨a, c⟩
    · have := s.up (p.1, p.2, 1) (mem_liftL.mpr (.inl ⟨hp, rfl⟩))
      simp only at this; omega
    · have h1 := s.up (p.1, p.2, 0 - r) (mem_liftL.mpr (.inr ⟨rfl, .inl hp⟩))
      have h2 := s.up (p.2, p.1, 0 - r) (mem_liftL.mpr (.inr ⟨rfl, .inr hp⟩))
      simp only at h1 h2
      rw [absI_le]; omega
  · rintro ⟨h, _, m⟩
    refine ⟨⟨h.len, fun i h0 h1 => (h.rg _ (gI_mem h0 (by rw [h.len]; exact h1))).1, fun c hc => ?_⟩, fun i h0 h1 => (h.rg _ (gI_mem h0 (by rw [h.len]; exact h1))).2⟩
    rcases mem_liftL.mp hc with ⟨h1, e⟩ | ⟨e, h1 | h1⟩
    · have := h.up _ h1
      simp only at this; omega
    · have := m _ h1
      rw [absI_le] at this
      simp only at this; omega
    · have := m _ h1
      rw [absI_le] at this
      simp only at this; omega
end Fn
namespace Fn
open PySem PySem.Spec PyProof.Rows L2 Fx
end Fn
namespace Fn
open PySem PySem.Spec PyProof.Rows L2 Fx
end Fn
namespace Fn
open PySem PySem.Spec PyProof.Rows L2 Fx
structure IsRow (n : Nat) (ps : List Pr) (row : List Int) : Prop where
  pm : row.Perm (rng n)
  up : ∀ p ∈ ps, row.idxOf p.1 < row.idxOf p.2
def RowV (n : Nat) (ps : List Pr) (v : PV) : Prop := ∃ row, v = tpI row ∧ IsRow n ps row
/-- what may be asked for a row -/
structure Fine (v : PV) : Prop where
  ok : okv v = true
  ly : ∀ xs, v = .tuple xs → PyData.canLayAll0 xs = true
  sh : ∀ xs, v = .tuple xs → xs.length < 64
theorem row_iff {n : Nat} {ps : List Pr} {row : List Int} : RowV n ps (tpI row) ↔ IsRow n ps row := by
  constructor
  · rintro ⟨r, e, h⟩
    unfold tpI at e
    injection e with e
    rw [int_inj e]; exact h
  · exact fun h => ⟨row, rfl, h⟩
theorem rng_up (n : Nat) : (rng n).Pairwise (fun a b => id a ≤ id b) := by
  unfold rng
  rw [List.pairwise_map]
  exact List.pairwise_lt_range.imp fun h => by simp; omega
theorem sort_iff {n : Nat} {row : List Int} : sortK id row = rng n ↔ row.Perm (rng n) := by
  constructor
  · intro h; rw [← h]; exact (sortK_perm id row).symm
  · intro h; exact rising_unique ((sortK_perm id row).trans h) (sortK_sorted id row) (rng_up n) fun a _ b _ e => e
theorem sortA_ints {row : List Int} (h : row.length < 64) : sortA [.tuple (row.map .int)] = some (.list ((sortK id row).map .int)) := by simp [sortA, h]
theorem lr1 {n : Nat} (hn : n ≤ 1000) {fa : En → RE PV} {ρ ρ1 : En} (h : fa ρ = .ok (.int n) ρ1) : eLR1 fa ρ = .ok (.list ((rng n).map .int)) ρ1 := by
  have c : (-1000000 : Int) ≤ n ∧ (n : Int) ≤ 1000000 := by omega
  unfold eLR1
  rw [h]
  simp only [RE.bind]
  rw [if_pos c]
  simp [rng, Fx.upTo]
theorem mem_row {n : Nat} {row : List Int} (h : row.Perm (rng n)) {a : Int} : a ∈ row ↔ 0 ≤ a ∧ a < n := by rw [h.mem_iff, mem_rng]
def far (row : List Int) (p : Pr) : Int := absI ((row.idxOf p.1 : Int) - (row.idxOf p.2 : Int))
section
variable {n : Nat} {ps : List Pr}
theorem row_c1 (o : IsOrd n ps) {row : List Int} (h : row.Perm (rng n)) : s_row_good_c1 [some (.s (ordV n ps)), some (.s (tpI row)), none, none, none] = .ok (.list (ps.map fun p => .bool (decide (row.idxOf p.1 < row.idxOf p.2)))) [some (.s (ordV n ps)), some (.s (tpI row)), none, none, none] := by
  refine eLC_map P (fun p => .bool (decide (row.idxOf p.1 < row.idxOf p.2))) (xs := ps) (ρ1 := [some (.s (ordV n ps)), some (.s (tpI row)), none, none, none]) (by simp [ordV, L2.atI, L2.ixN]) (by have := o.len; omega) (fun p hp => ?_) (by simp)
  have r := o.rg p hp
  have a1 := indexT ((mem_row h (a := p.1)).mpr ⟨r.1.1, r.1.2⟩)
  have a2 := indexT ((mem_row h (a := p.2)).mpr ⟨r.2.1, r.2.2⟩)
  unfold tpI
  simp [lcT, P, a1, a2]
theorem row_c0 {xs : List PV} (hl : xs.length ≤ 1000000) (hx : ∀ x ∈ xs, okv x = true) : s_row_good_c0 [some (.s (ordV n ps)), some (.s (.tuple xs)), none, none, none] = .ok (.list (xs.map fun x => .bool (thingB n x))) [some (.s (ordV n ps)), some (.s (.tuple xs)), none, none, none] := by
  refine eLC_map (fun x => x) (fun x => .bool (thingB n x)) (xs := xs) (ρ1 := [some (.s (ordV n ps)), some (.s (.tuple xs)), none, none, none]) (by simp) (by omega) (fun x hx' => ?_) (by simp)
  have w := is_thing_eq (n := n) (hx x hx')
  have i0 : idxV (ordV n ps) (.int 0) = some (.int n) := by simp [ordV, L2.atI, L2.ixN]
  generalize ordV n ps = oV at *
  simp [lcT, w, i0, -idxV, -thingB]
theorem row_good_eq (o : IsOrd n ps) {v : PV} (hf : Fine v) : ∃ b, f_row_good [ordV n ps, v] = .ret (.bool b) [] ∧ (b = true ↔ RowV n ps v) := by
  have no : ∀ {v : PV}, f_row_good [ordV n ps, v] = .ret (.bool false) [] → (¬ RowV n ps v) → ∃ b, f_row_good [ordV n ps, v] = .ret (.bool b) [] ∧ (b = true ↔ RowV n ps v) := fun e h => ⟨false, e, by simp [h]⟩
  have i0 : idxV (ordV n ps) (.int 0) = some (.int n) := by simp [ordV, L2.atI, L2.ixN]
  have hv := hf.ok
  have n6 := o.n6
  cases v with
  | tuple xs =>
    obtain ⟨hl', hx⟩ := okv_tuple hv
    have l64 := hf.sh xs rfl
    have c0 := row_c0 (n := n) (ps := ps) hl' hx
    have tt : isiP "tuple" (.tuple xs) = some true := rfl
    by_cases th : xs.all (thingB n) = true
    · have th2 : allV [.list (xs.map fun x => .bool (thingB n x))] = some (.bool true) := by rw [allV_mapf, th]
      generalize xs.map (fun x => PyData.bool (thingB n x)) = B at c0 th2
      obtain ⟨row, rfl, rg⟩ := ints_of_things th
      rw [List.length_map] at l64
      have sA := sortA_ints l64
      have l1 : ∀ a2 a3 a4, eLR1 (eOp idxV (pE (eVar 0) (eC (.int 0)))) [some (.s (ordV n ps)), some (.s (.tuple (row.map .int))), a2, a3, a4] = .ok (.list ((rng n).map .int)) [some (.s (ordV n ps)), some (.s (.tuple (row.map .int))), a2, a3, a4] := fun a2 a3 a4 => lr1 (by omega) (by simp [i0, -idxV])
      have ne : neP (.list ((sortK id row).map .int)) (.list ((rng n).map .int)) = some (!decide (sortK id row = rng n)) := neP_intsL _ _
      by_cases c : sortK id row = rng n
      · have pm := sort_iff.mp c
        have c1 := row_c1 o pm
        unfold tpI at c1
        refine ⟨ps.all fun p => decide (row.idxOf p.1 < row.idxOf p.2), ?_, ?_⟩
        · have a1 : allV [.list (ps.map fun p => .bool (decide (row.idxOf p.1 < row.idxOf p.2)))] = some (.bool (ps.all fun p => decide (row.idxOf p.1 < row.idxOf p.2))) := allV_mapf _ _
          rw [decide_eq_true c] at ne
          generalize (ps.all fun p => decide (row.idxOf p.1 < row.idxOf p.2)) = b at *
          generalize (ps.map fun p => PyData.bool (decide (row.idxOf p.1 < row.idxOf p.2))) = D at *
          rw [f_row_good_eq]
          generalize PyData.tuple (row.map .int) = rV at *
          generalize (sortK id row).map PyData.int = S at *
          generalize (rng n).map PyData.int = R at *
          generalize ordV n ps = oV at *
          generalize hlr : eLR1 (eOp idxV (pE (eVar 0) (eC (.int 0)))) = lr at l1
          simp [s_row_good, -eLR1, hlr, tt, c0, th2, sA, l1, ne, c1, a1]
        · show _ ↔ RowV n ps (tpI row)
          rw [row_iff, List.all_eq_true]
          exact ⟨fun h => ⟨pm, fun p hp => by simpa using h p hp⟩, fun h p hp => by simpa using h.up p hp⟩
      · refine no ?_ ?_
        · rw [decide_eq_false c] at ne
          rw [f_row_good_eq]
          generalize PyData.tuple (row.map .int) = rV at *
          generalize (sortK id row).map PyData.int = S at *
          generalize (rng n).map PyData.int = R at *
          generalize ordV n ps = oV at *
          generalize hlr : eLR1 (eOp idxV (pE (eVar 0) (eC (.int 0)))) = lr at l1
          simp [s_row_good, -eLR1, hlr, tt, c0, th2, sA, l1, ne]
        · show ¬ RowV n ps (tpI row)
          rw [row_iff]
          exact fun h => c (sort_iff.mpr h.pm)
    · have th' : (xs.all (thingB n)) = false := by simpa using th
      refine no ?_ ?_
      · have th2 : allV [.list (xs.map fun x => .bool (thingB n x))] = some (.bool false) := by rw [allV_mapf, th']
        generalize xs.map (fun x => PyData.bool (thingB n x)) = B at c0 th2
        rw [f_row_good_eq]
        generalize PyData.tuple xs = rV at *
        generalize ordV n ps = oV at *
        simp [s_row_good, tt, c0, th2]
      · rintro ⟨row, e, h⟩
        unfold tpI at e
        injection e with e
        rw [e, things_all fun x hx => (mem_row h.pm).mp hx] at th'
        cases th'
  | _ =>
    refine no ?_ ?_
    · rw [f_row_good_eq]
      simp [s_row_good, isi_tuple hv]
    · rintro ⟨row, e, h⟩
      cases e
end
end Fn
namespace Fn
open PySem PySem.Spec PyProof.Rows L2 Fx
section
variable {n : Nat} {ps : List Pr}
theorem idx_inj : ∀ {xs : List Int} {a b : Int}, a ∈ xs → xs.idxOf a = xs.idxOf b → a = b
  | [], _, _, h, _ => nomatch h
  | x :: xs, a, b, h, e => by
    rw [List.idxOf_cons, List.idxOf_cons] at e
    by_cases c : x = a
    · by_cases d : x = b
      · rw [← c, d]
      · simp [c] at e
        rw [c] at d
        have : (a == b) = false := by simpa using d
        rw [this] at e
        cases e
    · have c' : (x == a) = false := by simpa using c
      rw [c'] at e
      by_cases d : x = b
      · have d' : (x == b) = true := by simpa using d
        rw [d'] at e
        cases e
      · have d' : (x == b) = false := by simpa using d
        rw [d'] at e
        simp at e
        rcases List.mem_cons.mp h with q | q
        · exact absurd q.symm c
        · exact idx_inj q e
end
end Fn
namespace Fn
open PySem PySem.Spec PyProof.Rows L2 Fx
section
variable {n : Nat} {ps : List Pr}
def spanI (n : Nat) (ps : List Pr) (row : List Int) : Int := mx0 ((allL n ps).map (far row))
theorem absI_nn (i : Int) : 0 ≤ absI i := by unfold absI; split <;> omega
theorem apart_eq {row : List Int} (h : row.Perm (rng n)) {p : Pr} (r : (0 ≤ p.1 ∧ p.1 < n) ∧ 0 ≤ p.2 ∧ p.2 < n) : f_apart [tpI row, P p] = .ret (.int (far row p)) [] := by
  have a1 := indexT ((mem_row h (a := p.1)).mpr r.1)
  have a2 := indexT ((mem_row h (a := p.2)).mpr r.2)
  have p0 : L2.atI [PyData.int p.1, .int p.2] 0 = some (.int p.1) := rfl
  have p1 : L2.atI [PyData.int p.1, .int p.2] 1 = some (.int p.2) := rfl
  rw [f_apart_eq]
  unfold tpI P
  generalize PyData.tuple (row.map .int) = rV at *
  simp [s_apart, p0, p1, a1, a2, far, absI]
theorem mxD_nn : ∀ {l : List Int}, (∀ x ∈ l, 0 ≤ x) → mxD 0 l = mx0 l
  | [], _ => rfl
  | x :: l, h => by
    have := h x List.mem_cons_self
    show l.foldl max x = l.foldl max (max 0 x)
    rw [show max 0 x = x by omega]
theorem span_by_eq {row : List Int} (h : row.Perm (rng n)) {qs : List Pr} (rq : Rg n qs) (hl : qs.length ≤ 1000) : f_span_by [.list (qs.map P), tpI row] = .ret (.int (mx0 (qs.map (far row)))) [] := by
  have c : s_span_by_c0 [some (.s (.list (qs.map P))), some (.s (tpI row)), none] = .ok (.list (qs.map fun p => .int (far row p))) [some (.s (.list (qs.map P))), some (.s (tpI row)), none] := by
    refine eLC_map P (fun p => .int (far row p)) (xs := qs) (ρ1 := [some (.s (.list (qs.map P))), some (.s (tpI row)), none]) (by simp) (by omega) (fun p hp => ?_) (by simp)
    have e := apart_eq h (rq p hp)
    generalize P p = pV at *
    generalize tpI row = rV at *
    simp [lcT, e]
  have m : maxDefV [.list (qs.map fun p => .int (far row p))] [.int 0] = some (.int (mx0 (qs.map (far row)))) := by
    have : mxD 0 (qs.map (far row)) = mx0 (qs.map (far row)) := mxD_nn fun x hx => by
      obtain ⟨p, _, rfl⟩ := List.mem_map.mp hx
      exact absI_nn _
    simp [this]
  rw [f_span_by_eq]
  generalize PyData.list (qs.map P) = L at *
  generalize (qs.map fun p => PyData.int (far row p)) = M at *
  generalize tpI row = rV at *
  simp [s_span_by, c, m, -maxDefV]
theorem fine_row {row : List Int} (h : row.length < 64) : Fine (tpI row) :=
  ⟨okv_t (okvs_I row) (by simp; omega), fun xs e => by unfold tpI at e; injection e with e; rw [← e]; exact EncD.int.layAll row, fun xs e => by unfold tpI at e; injection e with e; rw [← e]; simpa using h⟩
theorem row_len {row : List Int} (h : row.Perm (rng n)) : row.length = n := by rw [h.length_eq, rng_length]
theorem need_row_ok (o : IsOrd n ps) {row : List Int} (h : IsRow n ps row) : f_need_row [ordV n ps, tpI row] = .ret .none [] := by
  have n6 := o.n6
  have l := row_len h.pm
  obtain ⟨b, e, i⟩ := row_good_eq o (fine_row (row := row) (by omega))
  have : b = true := i.mpr (row_iff.mpr h)
  subst this
  rw [f_need_row_eq]; simp [s_need_row, e]
theorem span_of_eq (o : IsOrd n ps) {row : List Int} (h : IsRow n ps row) : f_span_of [ordV n ps, tpI row] = .ret (.int (spanI n ps row)) [] := by
  have e1 := need_ok o
  have e2 := need_row_ok o h
  have e3 := all_loose_eq o.n6 (ps := ps)
  have e4 := span_by_eq h.pm (allL_rg n ps) (by have := allL_len n ps; have := o.n6; have : n * n ≤ 6 * 6 := Nat.mul_le_mul this this; omega)
  rw [f_span_of_eq]
  generalize ordV n ps = oV at *
  generalize tpI row = rV at *
  simp [s_span_of, e1, e2, e3, e4, spanI]
def optP : Option Pr → PV | some p => P p | none => .none
theorem farthest_eq (o : IsOrd n ps) {row : List Int} (h : IsRow n ps row) : f_farthest [ordV n ps, tpI row] = .ret (optP ((allL n ps).find? fun p => decide (far row p = spanI n ps row))) [] := by
  have e1 := need_ok o
  have e2 := need_row_ok o h
  have e3 := all_loose_eq o.n6 (ps := ps)
  have e4 := span_by_eq h.pm (allL_rg n ps) (by have := allL_len n ps; have := o.n6; have : n * n ≤ 6 * 6 := Nat.mul_le_mul this this; omega)
  have lp := forL_find (tg := .n 4) (g := sW [4] s_farthest_b0) P (fun p => decide (far row p = spanI n ps row)) P (fun p => [some (.s (ordV n ps)), some (.s (tpI row)), some (.s (.list ((allL n ps).map P))), some (.s (.int (spanI n ps row))), some (.s (P p))]) (ρ := [some (.s (ordV n ps)), some (.s (tpI row)), some (.s (.list ((allL n ps).map P))), some (.s (.int (spanI n ps row))), none]) (allL n ps) (fun p hp => by
    have e := apart_eq h.pm (allL_rg n ps p hp)
    generalize P p = pV at *
    generalize tpI row = rV at *
    generalize ordV n ps = oV at *
    by_cases c : far row p = spanI n ps row
    · simp [turn, s_farthest_b0, e, c]
    · simp [turn, s_farthest_b0, e, c])
  have l1 : s_farthest_l1 [some (.s (ordV n ps)), some (.s (tpI row)), some (.s (.list ((allL n ps).map P))), some (.s (.int (spanI n ps row))), none] = _ := (sFor_eq (by simp)).trans lp
  have e4 : f_span_by [.list ((allL n ps).map P), tpI row] = .ret (.int (spanI n ps row)) [] := e4
  rw [f_farthest_eq]
  generalize spanI n ps row = sp at *
  generalize PyData.list ((allL n ps).map P) = L at *
  generalize tpI row = rV at *
  generalize ordV n ps = oV at *
  cases hf : (allL n ps).find? fun p => decide (far row p = sp) with
  | none => rw [hf] at l1; simp [s_farthest, e1, e2, e3, e4, l1, optP]
  | some p => rw [hf] at l1; simp [s_farthest, e1, e2, e3, e4, l1, optP]
end
end Fn
namespace Fn
open PySem PySem.Spec PyProof.Rows L2 Fx
structure Pre (n : Nat) (ps : List Pr) (row : List Int) : Prop where
  nd : row.Nodup
  rg : ∀ x ∈ row, 0 ≤ x ∧ x < n
  up : ∀ p ∈ ps, p.2 ∈ row → p.1 ∈ row ∧ row.idxOf p.1 < row.idxOf p.2
def lateL (ps : List Pr) (row : List Int) (x : Int) : List Pr := ps.filter fun p => decide (p.2 = x) && !decide (p.1 ∈ row)
def restL (n : Nat) (row : List Int) : List Int := (rng n).filter fun x => !decide (x ∈ row)
def freeL (n : Nat) (ps : List Pr) (row : List Int) : List Int := (restL n row).filter fun x => decide (lateL ps row x = [])
section
variable {n : Nat} {ps : List Pr}
theorem atI_mapF {α β : Type} (f : α → β) (xs : List α) (i : Int) : L2.atI (xs.map f) i = (L2.atI xs i).map f := by
  unfold L2.atI
  rw [List.length_map]
  cases L2.ixN xs.length i <;> simp
theorem mem_free {row : List Int} {x : Int} : x ∈ freeL n ps row ↔ (0 ≤ x ∧ x < n) ∧ x ∉ row ∧ ∀ p ∈ ps, p.2 = x → p.1 ∈ row := by
  unfold freeL restL lateL
  simp only [List.mem_filter, mem_rng, Bool.not_eq_true', decide_eq_false_iff_not, decide_eq_true_eq, List.filter_eq_nil_iff, Bool.and_eq_true, and_assoc]
  constructor
  · rintro ⟨h1, h2, h3, h4⟩
    refine ⟨h1, h2, h3, fun p hp e => ?_⟩
    have := h4 p hp
    by_cases c : p.1 ∈ row
    · exact c
    · exact absurd ⟨e, c⟩ this
  · rintro ⟨h1, h2, h3, h4⟩
    exact ⟨h1, h2, h3, fun p hp ⟨e, c⟩ => c (h4 p hp e)⟩
theorem idx_app {row : List Int} {x y : Int} (h : y ∈ row) : (row ++ [x]).idxOf y = row.idxOf y := by
  rw [List.idxOf_append, if_pos h]
theorem idx_new {row : List Int} {x : Int} (h : x ∉ row) : (row ++ [x]).idxOf x = row.length := by
  rw [List.idxOf_append, if_neg h]; simp
theorem idx_lt {row : List Int} {x : Int} (h : x ∈ row) : row.idxOf x < row.length := List.idxOf_lt_length_iff.mpr h
theorem pre_step {row : List Int} (h : Pre n ps row) (o : IsOrd n ps) {x : Int} (hx : x ∈ freeL n ps row) : Pre n ps (row ++ [x]) := by
  obtain ⟨r, nx, fr⟩ := mem_free.mp hx
  refine ⟨?_, fun y hy => ?_, fun p hp hy => ?_⟩
  · rw [List.nodup_append]
    exact ⟨h.nd, by simp, fun a ha b hb e => by rw [List.mem_singleton.mp hb] at e; rw [e] at ha; exact nx ha⟩
  · rcases List.mem_append.mp hy with hy | hy
    · exact h.rg y hy
    · rw [List.mem_singleton.mp hy]; exact r
  · by_cases c : p.2 = x
    · have m := fr p hp c
      refine ⟨List.mem_append_left _ m, ?_⟩
      rw [idx_app m, c, idx_new nx]
      exact idx_lt m
    · have m2 : p.2 ∈ row := by
        rcases List.mem_append.mp hy with hy | hy
        · exact hy
        · exact absurd (List.mem_singleton.mp hy) c
      obtain ⟨m1, lt⟩ := h.up p hp m2
      exact ⟨List.mem_append_left _ m1, by rw [idx_app m1, idx_app m2]; exact lt⟩
theorem free_from {row : List Int} (o : IsOrd n ps) : ∀ (k : Nat) (x : Int), cnt n ps x ≤ k → (0 ≤ x ∧ x < n) → x ∉ row → freeL n ps row ≠ []
  | k, x, hk, hr, hx => by
    by_cases c : x ∈ freeL n ps row
    · exact List.ne_nil_of_mem c
    · rw [mem_free] at c
      have : ∃ p ∈ ps, p.2 = x ∧ p.1 ∉ row := by
        apply Classical.byContradiction
        intro hn
        exact c ⟨hr, hx, fun p hp e => Classical.byContradiction fun z => hn ⟨p, hp, e, z⟩⟩
      obtain ⟨p, hp, e, np⟩ := this
      have lt := cnt_lt o (a := p.1) (b := p.2) hp
      rw [e] at lt
      cases k with
      | zero => omega
      | succ k => exact free_from o k p.1 (by omega) (o.rg p hp).1 np
theorem free_ne {row : List Int} (o : IsOrd n ps) (h : Pre n ps row) (l : row.length < n) : freeL n ps row ≠ [] := by
  have : ∃ x ∈ rng n, x ∉ row := by
    apply Classical.byContradiction
    intro hn
    have := nodup_le (rng_nodup n) fun x hx => Classical.byContradiction fun z => hn ⟨x, hx, z⟩
    rw [rng_length] at this
    omega
  obtain ⟨x, hx, nx⟩ := this
  exact free_from o _ x (Nat.le_refl _) (mem_rng.mp hx) nx
theorem pre_full {row : List Int} (o : IsOrd n ps) (h : Pre n ps row) (l : row.length = n) : IsRow n ps row := by
  have all : ∀ x ∈ rng n, x ∈ row := fun x hx => Classical.byContradiction fun z => by
    have := nodup_le (List.nodup_cons.mpr ⟨z, h.nd⟩) (show ∀ y ∈ x :: row, y ∈ rng n from fun y hy => by
      rcases List.mem_cons.mp hy with rfl | hy
      · exact hx
      · exact mem_rng.mpr (h.rg y hy))
    rw [rng_length] at this
    simp at this
    omega
  have pm : row.Perm (rng n) := (List.perm_ext_iff_of_nodup h.nd (rng_nodup n)).mpr fun x => ⟨fun hx => mem_rng.mpr (h.rg x hx), all x⟩
  exact ⟨pm, fun p hp => (h.up p hp (all _ (mem_rng.mpr (o.rg p hp).2))).2⟩
theorem Lsr_c0 (st : PV) (row : List Int) (v : PV) (hn : n ≤ 6) : s_Lsome_row_c0 [some (.o st), some (.s (ordV n ps)), some (.s (tpI row)), some (.s v), none, none, none, none, none] = .ok (.list ((restL n row).map .int)) [some (.o st), some (.s (ordV n ps)), some (.s (tpI row)), some (.s v), none, none, none, none, none] := by
  refine eLC_filt PyData.int (fun x => !decide (x ∈ row)) PyData.int (xs := rng n) (ρ1 := [some (.o st), some (.s (ordV n ps)), some (.s (tpI row)), some (.s v), none, none, none, none, none]) (iR1_of (by simp [ordV, L2.atI, L2.ixN]) (by omega)) (by rw [rng_length]; omega) (fun x _ => ?_) (by simp)
  have := niP_intsT x row
  unfold tpI
  generalize PyData.tuple (row.map .int) = rV at *
  generalize ordV n ps = oV at *
  by_cases c : x ∈ row
  · rw [decide_eq_true c] at this; simp [lcT, this, c]
  · rw [decide_eq_false c] at this; simp [lcT, this, c]
theorem Lsr_c1 (st : PV) (row : List Int) (v a4 a6 : PV) (x : Int) (hl : ps.length ≤ 1000) : s_Lsome_row_c1 [some (.o st), some (.s (ordV n ps)), some (.s (tpI row)), some (.s v), some (.s a4), some (.s (.int x)), none, none, none] = .ok (.list ((lateL ps row x).map fun p => .int p.1)) [some (.o st), some (.s (ordV n ps)), some (.s (tpI row)), some (.s v), some (.s a4), some (.s (.int x)), none, none, none] := by
  refine eLC_filt P (fun p => decide (p.2 = x) && !decide (p.1 ∈ row)) (fun p => .int p.1) (xs := ps) (ρ1 := [some (.o st), some (.s (ordV n ps)), some (.s (tpI row)), some (.s v), some (.s a4), some (.s (.int x)), none, none, none]) (by simp [ordV, L2.atI, L2.ixN]) (by omega) (fun p _ => ?_) (by simp)
  have := niP_intsT p.1 row
  unfold tpI
  generalize PyData.tuple (row.map .int) = rV at *
  generalize ordV n ps = oV at *
  by_cases c : p.2 = x
  · by_cases d : p.1 ∈ row
    · rw [decide_eq_true d] at this; simp [lcT, P, this, c, d]
    · rw [decide_eq_false d] at this; simp [lcT, P, this, c, d]
  · simp [lcT, P, c]
theorem Lsr_c2 (st : PV) (row : List Int) (v : PV) (hl : ps.length ≤ 1000) (hn : n ≤ 6) : s_Lsome_row_c2 [some (.o st), some (.s (ordV n ps)), some (.s (tpI row)), some (.s v), some (.s (.list ((restL n row).map .int))), none, none, none, none] = .ok (.list ((freeL n ps row).map .int)) [some (.o st), some (.s (ordV n ps)), some (.s (tpI row)), some (.s v), some (.s (.list ((restL n row).map .int))), none, none, none, none] := by
  have lr : (restL n row).length ≤ n := by
    have := List.length_filter_le (fun x => !decide (x ∈ row)) (rng n)
    rwa [rng_length] at this
  refine eLC_filt PyData.int (fun x => decide (lateL ps row x = [])) PyData.int (xs := restL n row) (ρ1 := [some (.o st), some (.s (ordV n ps)), some (.s (tpI row)), some (.s v), some (.s (.list ((restL n row).map .int))), none, none, none, none]) (by simp) (by omega) (fun x _ => ?_) (by simp)
  have c1 := Lsr_c1 (n := n) (ps := ps) st row v (.list ((restL n row).map .int)) .none x hl
  have eq : eqP (.list ((lateL ps row x).map fun p => PyData.int p.1)) (.list []) = some (decide (lateL ps row x = [])) := by
    generalize lateL ps row x = z
    have := eqP_nilI (z.map fun p => p.1)
    rw [List.map_map] at this
    refine Eq.trans (show _ = eqP (.list (z.map (PyData.int ∘ fun p : Pr => p.1))) (.list []) from rfl) (this.trans ?_)
    cases z <;> simp
  generalize decide (lateL ps row x = []) = b at *
  generalize ((lateL ps row x).map fun p => PyData.int p.1) = Z at *
  generalize tpI row = rV at *
  generalize (restL n row).map PyData.int = R at *
  generalize ordV n ps = oV at *
  cases b <;> simp [lcT, c1, eq]
theorem Lsr_turn (o : IsOrd n ps) (s : Sd) {row : List Int} (h : Pre n ps row) (l : row.length < n) (v : PV) : ∃ x s', x ∈ freeL n ps row ∧
    turn (.n 3) (sW [3, 4, 6] s_Lsome_row_b3) v [some (.o (stV s)), some (.s (ordV n ps)), some (.s (tpI row)), none, none, none, none, none, none] = .nx [some (.o (stV s')), some (.s (ordV n ps)), some (.s (tpI (row ++ [x]))), none, none, none, none, none, none] := by
  have n6 := o.n6
  have pl := o.len
  have c0 := Lsr_c0 (n := n) (ps := ps) (stV s) row v n6
  have c2 := Lsr_c2 (n := n) (ps := ps) (stV s) row v (by omega) n6
  have fn := free_ne o h l
  have fl : 0 < (freeL n ps row).length := List.length_pos_iff.mpr fn
  have t1 := take_eq s ((freeL n ps row).length : Int) (by omega) (by
    have : (freeL n ps row).length ≤ (rng n).length := Nat.le_trans (List.length_filter_le _ _) (List.length_filter_le _ _)
    rw [rng_length] at this; omega)
  have b1 := takeR_bd s (m := ((freeL n ps row).length : Int)) (by omega)
  generalize takeS s ((freeL n ps row).length : Int) = s1 at t1
  generalize takeR s ((freeL n ps row).length : Int) = r1 at t1 b1
  obtain ⟨x, e, m⟩ := atI_some b1.1 b1.2
  refine ⟨x, s1, m, ?_⟩
  have e' : L2.atI ((freeL n ps row).map PyData.int) r1 = some (.int x) := by
    rw [atI_mapF, e]; rfl
  have l2 : lenV [.list ((freeL n ps row).map PyData.int)] = some (.int (freeL n ps row).length) := by simp
  have ad : addV (tpI row) (.tuple [.int x]) = some (tpI (row ++ [x])) := by
    have : row.length + 1 ≤ 16777216 := by omega
    simp [tpI, this]
  generalize tpI (row ++ [x]) = r2 at *
  generalize tpI row = rV at *
  generalize (restL n row).map PyData.int = R at *
  generalize ((freeL n ps row).length : Int) = k at *
  generalize (freeL n ps row).map PyData.int = Fr at *
  generalize ordV n ps = oV at *
  simp [turn, s_Lsome_row_b3, c0, c2, l2, t1, e', ad, -addV, -lenV]
theorem Lsome_row_eq (o : IsOrd n ps) (s : Sd) : ∃ row s', IsRow n ps row ∧ f_Lsome_row [stV s, ordV n ps] = .ret (tpI row) [stV s'] := by
  have n6 := o.n6
  obtain ⟨⟨s1, row⟩, ⟨hp, hl⟩, e⟩ := forL_exS (tg := .n 3) (g := sW [3, 4, 6] s_Lsome_row_b3) (fun as (b : Sd × List Int) => Pre n ps b.2 ∧ b.2.length + as.length = n) PyData.int (fun b : Sd × List Int => [some (.o (stV b.1)), some (.s (ordV n ps)), some (.s (tpI b.2)), none, none, none, none, none, none]) (fun a as b i => by
    obtain ⟨x, s', hx, e⟩ := Lsr_turn o b.1 i.1 (by have := i.2; simp at this; omega) (.int a)
    refine ⟨(s', b.2 ++ [x]), ⟨pre_step i.1 o hx, ?_⟩, e⟩
    have := i.2; simp at this ⊢; omega) (rng n) (s, []) ⟨⟨.nil, fun x h => (nomatch h), fun p hp h => nomatch h⟩, by simp⟩
  refine ⟨row, s1, pre_full o hp (by simpa using hl), ?_⟩
  have l4 : s_Lsome_row_l4 [some (.o (stV s)), some (.s (ordV n ps)), some (.s (.tuple [])), none, none, none, none, none, none] = .nx [some (.o (stV s1)), some (.s (ordV n ps)), some (.s (tpI row)), none, none, none, none, none, none] :=
    (sFor_eq (iR1_of (by simp [ordV, L2.atI, L2.ixN, tpI]) (by omega))).trans e
  rw [f_Lsome_row_eq]
  generalize tpI row = rV at *
  generalize ordV n ps = oV at *
  simp [s_Lsome_row, l4]
end
end Fn
namespace Fn
open PySem PySem.Spec PyProof.Rows L2 Fx
def mayB (ps : List Pr) (row : List Int) (x : Int) : Bool := !decide (x ∈ row) && (ps.filter fun p => decide (p.2 = x)).all fun p => decide (p.1 ∈ row)
def addF {α : Type} (p : α → Bool) (acc : List α) (x : α) : List α := if p x then acc ++ [x] else acc
theorem fold_addF {α : Type} (p : α → Bool) : ∀ (xs acc : List α), xs.foldl (addF p) acc = acc ++ xs.filter p
  | [], acc => by simp
  | x :: xs, acc => by
    rw [List.foldl_cons, fold_addF p xs, List.filter_cons]
    unfold addF
    cases p x <;> simp
theorem may_free (n : Nat) (ps : List Pr) (row : List Int) : (rng n).filter (mayB ps row) = freeL n ps row := by
  unfold freeL restL
  rw [List.filter_filter]
  congr 1
  funext x
  rw [Bool.eq_iff_iff]
  unfold mayB lateL
  simp only [Bool.and_eq_true, Bool.not_eq_true', decide_eq_false_iff_not, decide_eq_true_eq, List.all_eq_true, List.mem_filter, List.filter_eq_nil_iff, and_imp]
  constructor
  · rintro ⟨h1, h2⟩
    exact ⟨fun p hp ⟨e, c⟩ => c (h2 p hp e), h1⟩
  · rintro ⟨h1, h2⟩
    exact ⟨h2, fun p hp e => Classical.byContradiction fun c => h1 p hp ⟨e, c⟩⟩
section
variable {n : Nat} {ps : List Pr}
theorem mc_c0 (row : List Int) (acc : PV) (x : Int) (hl : ps.length ≤ 1000) : s_may_come_c0 [some (.s (ordV n ps)), some (.s (tpI row)), some (.o acc), some (.s (.int x)), none, none] = .ok (.list ((ps.filter fun p => decide (p.2 = x)).map fun p => .bool (decide (p.1 ∈ row)))) [some (.s (ordV n ps)), some (.s (tpI row)), some (.o acc), some (.s (.int x)), none, none] := by
  refine eLC_filt P (fun p => decide (p.2 = x)) (fun p => .bool (decide (p.1 ∈ row))) (xs := ps) (ρ1 := [some (.s (ordV n ps)), some (.s (tpI row)), some (.o acc), some (.s (.int x)), none, none]) (by simp [ordV, L2.atI, L2.ixN]) (by omega) (fun p _ => ?_) (by simp)
  have := inP_intsT p.1 row
  unfold tpI
  generalize PyData.tuple (row.map .int) = rV at *
  generalize ordV n ps = oV at *
  generalize decide (p.1 ∈ row) = b at *
  by_cases c : p.2 = x <;> simp [lcT, P, this, c]
theorem mc_turn (row acc : List Int) (x : Int) (hl : ps.length ≤ 1000) (la : acc.length ≤ 1000) : turn (.n 3) (sW [3] s_may_come_b1) (.int x) [some (.s (ordV n ps)), some (.s (tpI row)), some (.o (.list (acc.map .int))), none, none, none] = .nx [some (.s (ordV n ps)), some (.s (tpI row)), some (.o (.list ((addF (mayB ps row) acc x).map .int))), none, none, none] := by
  have c0 := mc_c0 (n := n) (ps := ps) row (.list (acc.map .int)) x hl
  have ni := niP_intsT x row
  have al : allV [.list ((ps.filter fun p => decide (p.2 = x)).map fun p => .bool (decide (p.1 ∈ row)))] = some (.bool ((ps.filter fun p => decide (p.2 = x)).all fun p => decide (p.1 ∈ row))) := allV_mapf _ _
  unfold tpI at *
  generalize PyData.tuple (row.map .int) = rV at *
  generalize ordV n ps = oV at *
  generalize ((ps.filter fun p => decide (p.2 = x)).map fun p => PyData.bool (decide (p.1 ∈ row))) = Z at *
  have l2 : (acc.map PyData.int).length < 16777216 := by simp; omega
  have e : addF (mayB ps row) acc x = if (!decide (x ∈ row) && (ps.filter fun p => decide (p.2 = x)).all fun p => decide (p.1 ∈ row)) = true then acc ++ [x] else acc := rfl
  generalize ((ps.filter fun p => decide (p.2 = x)).all fun p => decide (p.1 ∈ row)) = b at *
  generalize decide (x ∈ row) = d at *
  rw [e]
  have e2 : (acc ++ [x]).map PyData.int = acc.map PyData.int ++ [.int x] := by simp
  cases d <;> cases b <;> simp only [Bool.not_true, Bool.not_false, Bool.and_true, Bool.and_false, Bool.true_and, Bool.false_and, if_true, if_false, e2, Bool.false_eq_true] <;> generalize acc.map PyData.int = A at * <;> simp [turn, s_may_come_b1, c0, ni, al, l2]
theorem may_come_eq (hn : n ≤ 6) (hl : ps.length ≤ 1000) (row : List Int) : f_may_come [ordV n ps, tpI row] = .ret (.list ((freeL n ps row).map .int)) [] := by
  have e := (forL_foldS (tg := .n 3) (g := sW [3] s_may_come_b1) (fun (as : List Int) (acc : List Int) => acc.length + as.length ≤ n) PyData.int (fun acc : List Int => [some (.s (ordV n ps)), some (.s (tpI row)), some (.o (.list (acc.map .int))), none, none, none]) (addF (mayB ps row)) (fun a as b i => by
    refine ⟨mc_turn row b a hl (by simp at i; omega), ?_⟩
    unfold addF
    split <;> simp at i ⊢ <;> omega) (rng n) [] (by simp)).1
  rw [fold_addF, List.nil_append, may_free] at e
  have l2 : s_may_come_l2 [some (.s (ordV n ps)), some (.s (tpI row)), some (.o (.list [])), none, none, none] = .nx [some (.s (ordV n ps)), some (.s (tpI row)), some (.o (.list ((freeL n ps row).map .int))), none, none, none] :=
    (sFor_eq (iR1_of (by simp [ordV, L2.atI, L2.ixN]) (by omega))).trans e
  rw [f_may_come_eq]
  generalize (freeL n ps row).map PyData.int = F at *
  generalize tpI row = rV at *
  generalize ordV n ps = oV at *
  simp [s_may_come, l2]
end
end Fn
namespace Fn
open PySem PySem.Spec PyProof.Rows L2 Fx
def nextL (n : Nat) (ps : List Pr) (row : List Int) : List (List Int) := (freeL n ps row).map fun x => row ++ [x]
def rowsK (n : Nat) (ps : List Pr) : Nat → List (List Int)
  | 0 => [[]]
  | k + 1 => (rowsK n ps k).flatMap (nextL n ps)
section
variable {n : Nat} {ps : List Pr}
theorem mem_rowsK (o : IsOrd n ps) : ∀ {k : Nat} {row : List Int}, row ∈ rowsK n ps k ↔ Pre n ps row ∧ row.length = k
  | 0, row => by
    simp only [rowsK, List.mem_singleton]
    constructor
    · rintro rfl; exact ⟨⟨.nil, fun x h => (nomatch h), fun p hp h => nomatch h⟩, rfl⟩
    · rintro ⟨_, h⟩; exact List.length_eq_zero_iff.mp h
  | k + 1, row => by
    simp only [rowsK, List.mem_flatMap, nextL, List.mem_map]
    constructor
    · rintro ⟨r, hr, x, hx, rfl⟩
      obtain ⟨h1, h2⟩ := (mem_rowsK o).mp hr
      exact ⟨pre_step h1 o hx, by simp [h2]⟩
    · rintro ⟨h, l⟩
      obtain ⟨r, x, rfl⟩ : ∃ r x, row = r ++ [x] := ⟨row.dropLast, row.getLast (by intro e; rw [e] at l; cases l), (List.dropLast_concat_getLast _).symm⟩
      have nd := List.nodup_append.mp h.nd
      have nx : x ∉ r := fun m => nd.2.2 x m x (by simp) rfl
      have pr : Pre n ps r := ⟨nd.1, fun y hy => h.rg y (List.mem_append_left _ hy), fun p hp m => by
        obtain ⟨m1, lt⟩ := h.up p hp (List.mem_append_left _ m)
        rw [idx_app m] at lt
        by_cases c : p.1 ∈ r
        · rw [idx_app c] at lt; exact ⟨c, lt⟩
        · rcases List.mem_append.mp m1 with z | z
          · exact absurd z c
          · rw [List.mem_singleton.mp z, idx_new nx] at lt
            have := idx_lt m
            omega⟩
      refine ⟨r, (mem_rowsK o).mpr ⟨pr, by simpa using l⟩, x, mem_free.mpr ⟨h.rg x (by simp), nx, fun p hp e => ?_⟩, rfl⟩
      obtain ⟨m1, lt⟩ := h.up p hp (by rw [e]; simp)
      rw [e, idx_new nx] at lt
      by_cases c : p.1 ∈ r
      · exact c
      · rcases List.mem_append.mp m1 with z | z
        · exact absurd z c
        · rw [List.mem_singleton.mp z, idx_new nx] at lt; omega
theorem mem_rows (o : IsOrd n ps) {row : List Int} : row ∈ rowsK n ps n ↔ IsRow n ps row := by
  rw [mem_rowsK o]
  constructor
  · exact fun ⟨h, l⟩ => pre_full o h l
  · intro h
    refine ⟨⟨h.pm.nodup_iff.mpr (rng_nodup n), fun x hx => (mem_row h.pm).mp hx, fun p hp _ => ⟨(mem_row h.pm).mpr (o.rg p hp).1, h.up p hp⟩⟩, row_len h.pm⟩
theorem rowsK_len : ∀ k : Nat, (rowsK n ps k).length ≤ n ^ k
  | 0 => by simp [rowsK]
  | k + 1 => by
    have := flat_len (f := nextL n ps) (k := n) (xs := rowsK n ps k) fun r _ => by
      unfold nextL freeL restL
      rw [List.length_map]
      refine Nat.le_trans (List.length_filter_le _ _) (Nat.le_trans (List.length_filter_le _ _) ?_)
      rw [rng_length]; exact Nat.le_refl _
    rw [Nat.pow_succ]
    exact Nat.le_trans this (Nat.mul_le_mul_right n (rowsK_len k))
end
end Fn
namespace Fn
open PySem PySem.Spec PyProof.Rows L2 Fx
section
variable {n : Nat} {ps : List Pr}
theorem pow_le {n : Nat} (h : n ≤ 6) (k : Nat) (hk : k ≤ 6) : n ^ k ≤ 46656 := Nat.le_trans (Nat.pow_le_pow_left h k) (Nat.le_trans (Nat.pow_le_pow_right (by omega) hk) (by decide))
theorem ro_c0 (hn : n ≤ 6) (hl : ps.length ≤ 1000) (row : List Int) (lr : row.length ≤ 6) (a1 a2 : Option Sv) (acc : PV) : s_rows_of_c0 [some (.s (ordV n ps)), a1, a2, some (.o acc), some (.s (tpI row)), none] = .ok (.list ((nextL n ps row).map tpI)) [some (.s (ordV n ps)), a1, a2, some (.o acc), some (.s (tpI row)), none] := by
  have m := may_come_eq hn hl row
  have fl : (freeL n ps row).length ≤ n := by
    unfold freeL restL
    refine Nat.le_trans (List.length_filter_le _ _) (Nat.le_trans (List.length_filter_le _ _) ?_)
    rw [rng_length]; exact Nat.le_refl _
  unfold nextL
  rw [List.map_map]
  refine eLC_map PyData.int (tpI ∘ fun x => row ++ [x]) (xs := freeL n ps row) (ρ1 := [some (.s (ordV n ps)), a1, a2, some (.o acc), some (.s (tpI row)), none]) (by simp [m]) (by omega) (fun x _ => ?_) (by simp)
  have ad : addV (tpI row) (.tuple [.int x]) = some (tpI (row ++ [x])) := by
    have : row.length + 1 ≤ 16777216 := by omega
    simp [tpI, this]
  simp only [Function.comp_apply]
  generalize tpI (row ++ [x]) = r2 at *
  generalize tpI row = rV at *
  generalize ordV n ps = oV at *
  simp [lcT, ad, -addV]
theorem ro_turn (hn : n ≤ 6) (hl : ps.length ≤ 1000) (row : List Int) (lr : row.length ≤ 6) (a1 a2 : Option Sv) (acc : List (List Int)) (la : acc.length + n ≤ 1000000) : turn (.n 4) (sW [4] s_rows_of_b1) (tpI row) [some (.s (ordV n ps)), a1, a2, some (.o (.list (acc.map tpI))), none, none] = .nx [some (.s (ordV n ps)), a1, a2, some (.o (.list ((acc ++ nextL n ps row).map tpI))), none, none] := by
  have c0 := ro_c0 hn hl row lr a1 a2 (.list (acc.map tpI))
  have fl : (nextL n ps row).length ≤ n := by
    unfold nextL freeL restL
    rw [List.length_map]
    refine Nat.le_trans (List.length_filter_le _ _) (Nat.le_trans (List.length_filter_le _ _) ?_)
    rw [rng_length]; exact Nat.le_refl _
  have l2 : (acc.map tpI).length + ((nextL n ps row).map tpI).length ≤ 16777216 := by simp; omega
  rw [List.map_append]
  generalize acc.map tpI = A at *
  generalize (nextL n ps row).map tpI = Z at *
  generalize tpI row = rV at *
  generalize ordV n ps = oV at *
  simp [turn, s_rows_of_b1, c0, l2]
theorem fold_flat {α β : Type} (f : α → List β) : ∀ (xs : List α) (l : List β), xs.foldl (fun l a => l ++ f a) l = l ++ xs.flatMap f
  | [], l => by simp
  | x :: xs, l => by rw [List.foldl_cons, fold_flat f xs]; simp [List.flatMap_cons]
theorem ro_l2 (o : IsOrd n ps) (k : Nat) (hk : k < n) (a2 : Option Sv) : s_rows_of_l2 [some (.s (ordV n ps)), some (.s (.list ((rowsK n ps k).map tpI))), a2, some (.o (.list [])), none, none] = .nx [some (.s (ordV n ps)), some (.s (.list ((rowsK n ps k).map tpI))), a2, some (.o (.list ((rowsK n ps (k + 1)).map tpI))), none, none] := by
  have n6 := o.n6
  have pl := o.len
  have bound : ∀ rs : List (List Int), (rs.flatMap (nextL n ps)).length ≤ rs.length * 6 := fun rs => flat_len fun r _ => by
    unfold nextL freeL restL
    rw [List.length_map]
    refine Nat.le_trans (List.length_filter_le _ _) (Nat.le_trans (List.length_filter_le _ _) ?_)
    rw [rng_length]; exact n6
  have one : ∀ r, (nextL n ps r).length ≤ 6 := fun r => by have := bound [r]; simpa using this
  have kl := Nat.le_trans (rowsK_len (n := n) (ps := ps) k) (pow_le n6 k (by omega))
  have e := (forL_foldS (tg := .n 4) (g := sW [4] s_rows_of_b1) (fun (as : List (List Int)) (acc : List (List Int)) => acc.length + as.length * 6 ≤ 500000 ∧ ∀ r ∈ as, r.length ≤ 6) tpI (fun acc : List (List Int) => [some (.s (ordV n ps)), some (.s (.list ((rowsK n ps k).map tpI))), a2, some (.o (.list (acc.map tpI))), none, none]) (fun acc r => acc ++ nextL n ps r) (fun r as acc i => by
    have h1 := one r
    refine ⟨ro_turn n6 (by omega) r (i.2 r List.mem_cons_self) _ _ acc (by have := i.1; simp at this; omega), ?_, fun q hq => i.2 q (List.mem_cons_of_mem _ hq)⟩
    have := i.1; simp at this ⊢; omega) (rowsK n ps k) [] ⟨by simp; omega, fun r hr => by have := ((mem_rowsK o).mp hr).2; omega⟩).1
  rw [fold_flat, List.nil_append] at e
  exact (sFor_eq (by simp)).trans e
end
end Fn
namespace Fn
open PySem PySem.Spec PyProof.Rows L2 Fx
section
variable {n : Nat} {ps : List Pr}
theorem rows_of_eq (o : IsOrd n ps) : f_rows_of [ordV n ps] = .ret (.list ((rowsK n ps n).map tpI)) [] := by
  have n6 := o.n6
  obtain ⟨k, ⟨hk, _⟩, e⟩ := forL_exS (tg := .n 2) (g := sW [2, 3, 4] s_rows_of_b3) (fun (as : List Int) (k : Nat) => k + as.length = n ∧ True) PyData.int (fun k : Nat => [some (.s (ordV n ps)), some (.s (.list ((rowsK n ps k).map tpI))), none, none, none, none]) (fun a as k i => by
    have l2 := ro_l2 o k (by have := i.1; simp at this; omega) (some (.s (.int a)))
    refine ⟨k + 1, ⟨by have := i.1; simp at this; omega, trivial⟩, ?_⟩
    generalize (rowsK n ps k).map tpI = A at *
    generalize (rowsK n ps (k + 1)).map tpI = B at *
    generalize ordV n ps = oV at *
    simp [turn, s_rows_of_b3, l2]) (rng n) 0 ⟨by simp, trivial⟩
  have hk : k = n := by simpa using hk
  subst hk
  have l4 : s_rows_of_l4 [some (.s (ordV k ps)), some (.s (.list [.tuple []])), none, none, none, none] = .nx [some (.s (ordV k ps)), some (.s (.list ((rowsK k ps k).map tpI))), none, none, none, none] :=
    (sFor_eq (ρ1 := [some (.s (ordV k ps)), some (.s (.list [.tuple []])), none, none, none, none]) (iR1_of (by simp [ordV, L2.atI, L2.ixN]) (by omega))).trans e
  rw [f_rows_of_eq]
  generalize (rowsK k ps k).map tpI = A at *
  generalize ordV k ps = oV at *
  simp [s_rows_of, l4]
end
end Fn
namespace Fn
open PySem PySem.Spec PyProof.Rows L2 Fx
end Fn
namespace Fn
open PySem PySem.Spec PyProof.Rows L2 Fx
end Fn
namespace Fn
open PySem PySem.Spec PyProof.Rows L2 Fx
end Fn
namespace Fn
open PySem PySem.Spec PyProof.Rows L2 Fx
structure LeastSp (n : Nat) (ps : List Pr) (m : Int) : Prop where
  ex : ∃ row, IsRow n ps row ∧ spanI n ps row = m
  le : ∀ row, IsRow n ps row → m ≤ spanI n ps row
theorem LeastSp.unique {n : Nat} {ps : List Pr} {m k : Int} (h : LeastSp n ps m) (g : LeastSp n ps k) : m = k := by
  obtain ⟨r, hr, e⟩ := h.ex
  obtain ⟨r', hr', e'⟩ := g.ex
  have := h.le r' hr'
  have := g.le r hr
  omega
theorem minI_spec : ∀ {l : List Int}, l ≠ [] → ∃ m, minI l = some m ∧ m ∈ l ∧ ∀ x ∈ l, m ≤ x
  | [], h => absurd rfl h
  | a :: l, _ => by
    refine ⟨_, rfl, ?_⟩
    induction l generalizing a with
    | nil => simp
    | cons b l ih =>
      obtain ⟨h1, h2⟩ := ih (min a b) (by simp)
      rw [List.foldl_cons]
      refine ⟨?_, fun x hx => ?_⟩
      · rcases List.mem_cons.mp h1 with h | h
        · rw [h]
          by_cases c : a ≤ b
          · rw [show min a b = a by omega]; simp
          · rw [show min a b = b by omega]; simp
        · exact List.mem_cons_of_mem _ (List.mem_cons_of_mem _ h)
      · have h0 := h2 (min a b) List.mem_cons_self
        rcases List.mem_cons.mp hx with rfl | hx
        · omega
        · rcases List.mem_cons.mp hx with rfl | hx
          · omega
          · exact h2 x (List.mem_cons_of_mem _ hx)
section
variable {n : Nat} {ps : List Pr}
theorem some_row (o : IsOrd n ps) : ∃ row, IsRow n ps row := let ⟨row, _, h, _⟩ := Lsome_row_eq o (0, true); ⟨row, h⟩
theorem rows_ne (o : IsOrd n ps) : rowsK n ps n ≠ [] := by
  obtain ⟨row, h⟩ := some_row o
  exact List.ne_nil_of_mem ((mem_rows o).mpr h)
theorem rows_len (o : IsOrd n ps) : (rowsK n ps n).length ≤ 46656 := Nat.le_trans (rowsK_len n) (pow_le o.n6 n o.n6)
theorem least_ex (o : IsOrd n ps) : ∃ m, minI ((rowsK n ps n).map (spanI n ps)) = some m ∧ LeastSp n ps m := by
  obtain ⟨m, e, h1, h2⟩ := minI_spec (l := (rowsK n ps n).map (spanI n ps)) (by simp [rows_ne o])
  obtain ⟨r, hr, er⟩ := List.mem_map.mp h1
  exact ⟨m, e, ⟨r, (mem_rows o).mp hr, er⟩, fun q hq => h2 _ (List.mem_map.mpr ⟨q, (mem_rows o).mpr hq, rfl⟩)⟩
def SpR (n : Nat) (ps : List Pr) (row : List Int) : PV := .tuple [.int (spanI n ps row), tpI row]
theorem spanned_eq (o : IsOrd n ps) : f_spanned [ordV n ps] = .ret (.list ((rowsK n ps n).map (SpR n ps))) [] := by
  have e1 := rows_of_eq o
  have e3 := all_loose_eq o.n6 (ps := ps)
  have rl := rows_len o
  have c : s_spanned_c0 [some (.s (ordV n ps)), some (.s (.list ((allL n ps).map P))), none] = .ok (.list ((rowsK n ps n).map (SpR n ps))) [some (.s (ordV n ps)), some (.s (.list ((allL n ps).map P))), none] := by
    refine eLC_map tpI (SpR n ps) (xs := rowsK n ps n) (ρ1 := [some (.s (ordV n ps)), some (.s (.list ((allL n ps).map P))), none]) (by simp [e1]) (by omega) (fun row hr => ?_) (by simp)
    have h := (mem_rows o).mp hr
    have e4 : f_span_by [.list ((allL n ps).map P), tpI row] = .ret (.int (spanI n ps row)) [] := span_by_eq h.pm (allL_rg n ps) (by have := allL_len n ps; have := o.n6; have : n * n ≤ 6 * 6 := Nat.mul_le_mul this this; omega)
    unfold SpR
    generalize PyData.list ((allL n ps).map P) = L at *
    generalize tpI row = rV at *
    generalize ordV n ps = oV at *
    simp [lcT, e4]
  rw [f_spanned_eq]
  generalize (rowsK n ps n).map (SpR n ps) = Z at *
  generalize PyData.list ((allL n ps).map P) = L at *
  generalize ordV n ps = oV at *
  simp [s_spanned, e3, c]
theorem minV_spans (o : IsOrd n ps) {m : Int} (e : minI ((rowsK n ps n).map (spanI n ps)) = some m) : minV [.list ((rowsK n ps n).map fun r => PyData.int (spanI n ps r))] = some (.int m) := by
  have : ((rowsK n ps n).map fun r => PyData.int (spanI n ps r)) = ((rowsK n ps n).map (spanI n ps)).map PyData.int := by rw [List.map_map]; rfl
  rw [this]
  unfold minV
  simp only [intsOf_map]
  show Option.map PyData.int (Option.bind (some ((rowsK n ps n).map (spanI n ps))) minI) = _
  simp only [Option.bind, e, Option.map]
theorem least_of_eq (o : IsOrd n ps) : ∃ m, LeastSp n ps m ∧ f_least_of [ordV n ps] = .ret (.int m) [] := by
  obtain ⟨m, e, h⟩ := least_ex o
  refine ⟨m, h, ?_⟩
  have e1 := spanned_eq o
  have rl := rows_len o
  have mv := minV_spans o e
  have c : s_least_of_c0 [some (.s (ordV n ps)), none, none] = .ok (.list ((rowsK n ps n).map fun r => PyData.int (spanI n ps r))) [some (.s (ordV n ps)), none, none] := by
    refine eLC_map (SpR n ps) (fun r => .int (spanI n ps r)) (xs := rowsK n ps n) (ρ1 := [some (.s (ordV n ps)), none, none]) (by simp [e1]) (by omega) (fun row _ => ?_) (by simp)
    unfold SpR
    generalize tpI row = rV at *
    generalize ordV n ps = oV at *
    simp [lcT]
  rw [f_least_of_eq]
  generalize ((rowsK n ps n).map fun r => PyData.int (spanI n ps r)) = Z at *
  generalize ordV n ps = oV at *
  simp [s_least_of, c, mv]
theorem least_span_eq (o : IsOrd n ps) : ∃ m, LeastSp n ps m ∧ f_least_span [ordV n ps] = .ret (.int m) [] := by
  obtain ⟨m, h, e⟩ := least_of_eq o
  refine ⟨m, h, ?_⟩
  rw [f_least_span_eq]
  simp [s_least_span, need_ok o, e]
def bestL (n : Nat) (ps : List Pr) (m : Int) : List (List Int) := (rowsK n ps n).filter fun r => decide (spanI n ps r = m)
theorem best_of_eq (o : IsOrd n ps) : ∃ m, LeastSp n ps m ∧ f_best_of [ordV n ps] = .ret (.list ((bestL n ps m).map tpI)) [] := by
  obtain ⟨m, e, h⟩ := least_ex o
  refine ⟨m, h, ?_⟩
  have e1 := spanned_eq o
  have rl := rows_len o
  have mv := minV_spans o e
  have c0 : ∀ a2, s_best_of_c0 [some (.s (ordV n ps)), some (.s (.list ((rowsK n ps n).map (SpR n ps)))), a2, none, none] = .ok (.list ((rowsK n ps n).map fun r => PyData.int (spanI n ps r))) [some (.s (ordV n ps)), some (.s (.list ((rowsK n ps n).map (SpR n ps)))), a2, none, none] := fun a2 => by
    refine eLC_map (SpR n ps) (fun r => .int (spanI n ps r)) (xs := rowsK n ps n) (ρ1 := [some (.s (ordV n ps)), some (.s (.list ((rowsK n ps n).map (SpR n ps)))), a2, none, none]) (by simp) (by omega) (fun row _ => ?_) (by simp)
    generalize (rowsK n ps n).map (SpR n ps) = A at *
    unfold SpR
    generalize tpI row = rV at *
    generalize ordV n ps = oV at *
    simp [lcT]
  have c1 : s_best_of_c1 [some (.s (ordV n ps)), some (.s (.list ((rowsK n ps n).map (SpR n ps)))), some (.s (.int m)), none, none] = .ok (.list ((bestL n ps m).map tpI)) [some (.s (ordV n ps)), some (.s (.list ((rowsK n ps n).map (SpR n ps)))), some (.s (.int m)), none, none] := by
    refine eLC_filt (SpR n ps) (fun r => decide (spanI n ps r = m)) tpI (xs := rowsK n ps n) (ρ1 := [some (.s (ordV n ps)), some (.s (.list ((rowsK n ps n).map (SpR n ps)))), some (.s (.int m)), none, none]) (by simp) (by omega) (fun row _ => ?_) (by simp)
    generalize (rowsK n ps n).map (SpR n ps) = A at *
    unfold SpR
    generalize tpI row = rV at *
    generalize ordV n ps = oV at *
    by_cases q : spanI n ps row = m <;> simp [lcT, q]
  rw [f_best_of_eq]
  generalize ((rowsK n ps n).map fun r => PyData.int (spanI n ps r)) = Z at *
  generalize (bestL n ps m).map tpI = B at *
  generalize (rowsK n ps n).map (SpR n ps) = A at *
  generalize ordV n ps = oV at *
  simp [s_best_of, e1, c0, c1, mv]
theorem best_rows_eq (o : IsOrd n ps) {m : Int} (h : LeastSp n ps m) : f_best_rows [ordV n ps] = .ret (.list ((bestL n ps m).map tpI)) [] := by
  obtain ⟨k, g, e⟩ := best_of_eq o
  rw [h.unique g, f_best_rows_eq]
  simp [s_best_rows, need_ok o, e]
theorem mem_best (o : IsOrd n ps) {m : Int} {r : List Int} : r ∈ bestL n ps m ↔ IsRow n ps r ∧ spanI n ps r = m := by
  unfold bestL
  rw [List.mem_filter, mem_rows o, decide_eq_true_eq]
theorem best_ne (o : IsOrd n ps) {m : Int} (h : LeastSp n ps m) : ∃ r rs, bestL n ps m = r :: rs := by
  obtain ⟨r, h1, h2⟩ := h.ex
  have := (mem_best o).mpr ⟨h1, h2⟩
  cases q : bestL n ps m with
  | nil => rw [q] at this; cases this
  | cons a l => exact ⟨a, l, rfl⟩
theorem first_best_eq (o : IsOrd n ps) {m : Int} (h : LeastSp n ps m) : ∃ r rs, bestL n ps m = r :: rs ∧ f_first_best [ordV n ps] = .ret (tpI r) [] := by
  obtain ⟨k, g, e⟩ := best_of_eq o
  rw [← h.unique g] at e
  obtain ⟨r, rs, q⟩ := best_ne o h
  refine ⟨r, rs, q, ?_⟩
  rw [q] at e
  have i0 : idxV (.list ((r :: rs).map tpI)) (.int 0) = some (tpI r) := by
    have : (0 : Int) < (rs.length : Int) + 1 := by omega
    simp [L2.atI, L2.ixN, this]
  rw [f_first_best_eq]
  have no := need_ok o
  generalize (r :: rs).map tpI = B at *
  generalize ordV n ps = oV at *
  simp [s_first_best, no, e, i0, -idxV]
theorem rows_many_eq (o : IsOrd n ps) : f_rows_many [ordV n ps] = .ret (.int (rowsK n ps n).length) [] := by
  rw [f_rows_many_eq]
  simp [s_rows_many, need_ok o, rows_of_eq o]
theorem is_row_eq (o : IsOrd n ps) {v : PV} (hf : Fine v) : ∃ b, f_is_row [ordV n ps, v] = .ret (.bool b) [] ∧ (b = true ↔ RowV n ps v) := by
  obtain ⟨b, e, i⟩ := row_good_eq o hf
  refine ⟨b, ?_, i⟩
  rw [f_is_row_eq]
  simp [s_is_row, need_ok o, e]
theorem loose_pairs_eq (o : IsOrd n ps) : f_loose_pairs [ordV n ps] = .ret (.list ((allL n ps).map P)) [] := by
  rw [f_loose_pairs_eq]
  simp [s_loose_pairs, need_ok o, all_loose_eq o.n6]
end
end Fn
namespace Fn
open PySem PySem.Spec PyProof.Rows L2 Fx
section
variable {n : Nat} {ps : List Pr}
theorem far_lt {row : List Int} (h : row.Perm (rng n)) {p : Pr} (r : (0 ≤ p.1 ∧ p.1 < n) ∧ 0 ≤ p.2 ∧ p.2 < n) : far row p < n := by
  have a1 := idx_lt ((mem_row h (a := p.1)).mpr r.1)
  have a2 := idx_lt ((mem_row h (a := p.2)).mpr r.2)
  have l := row_len h
  unfold far absI
  split <;> omega
theorem span_lt (o : IsOrd n ps) {row : List Int} (h : row.Perm (rng n)) : spanI n ps row < n := by
  have : spanI n ps row ≤ (n : Int) - 1 := by
    unfold spanI mx0
    rw [foldl_max_iff]
    have := o.n1
    refine ⟨by omega, fun x hx => ?_⟩
    obtain ⟨p, hp, rfl⟩ := List.mem_map.mp hx
    have := far_lt h (allL_rg n ps p hp)
    omega
  omega
theorem span_nn (row : List Int) : 0 ≤ spanI n ps row := by
  unfold spanI mx0
  exact (foldl_max_le _ _).1
end
end Fn
namespace Fn
open PySem PySem.Spec PyProof.Rows L2 Fx
theorem absI_sub_comm (a b : Int) : absI (a - b) = absI (b - a) := by unfold absI; split <;> split <;> omega
theorem far_comm (row : List Int) (a b : Int) : far row (a, b) = far row (b, a) := absI_sub_comm _ _
theorem spanI_le {n : Nat} {ps : List Pr} {row : List Int} {k : Int} : spanI n ps row ≤ k ↔ 0 ≤ k ∧ ∀ a b : Int, 0 ≤ a → a < n → 0 ≤ b → b < n → a ≠ b → (a, b) ∉ ps → (b, a) ∉ ps → far row (a, b) ≤ k := by
  unfold spanI mx0
  rw [foldl_max_iff]
  refine and_congr Iff.rfl ⟨fun h a b a0 a1 b0 b1 ne x y => ?_, fun h x hx => ?_⟩
  · rcases Int.lt_trichotomy a b with l | l | l
    · exact h _ (List.mem_map.mpr ⟨(a, b), mem_allL.mpr ⟨a0, l, b1, x, y⟩, rfl⟩)
    · exact absurd l ne
    · rw [far_comm]
      exact h _ (List.mem_map.mpr ⟨(b, a), mem_allL.mpr ⟨b0, l, a1, y, x⟩, rfl⟩)
  · obtain ⟨p, hp, rfl⟩ := List.mem_map.mp hx
    obtain ⟨h1, h2, h3, h4, h5⟩ := mem_allL.mp hp
    exact h p.1 p.2 h1 (by omega) (by omega) h3 (by omega) h4 h5
theorem far_le_span {n : Nat} {ps : List Pr} {row : List Int} {a b : Int} (a0 : 0 ≤ a) (a1 : a < n) (b0 : 0 ≤ b) (b1 : b < n) (ne : a ≠ b) (x : (a, b) ∉ ps) (y : (b, a) ∉ ps) : far row (a, b) ≤ spanI n ps row :=
  (spanI_le.mp (Int.le_refl (spanI n ps row))).2 a b a0 a1 b0 b1 ne x y
theorem part_le {g : Int → Option Int} {f : Int → Int} (G : ∀ y c, g y = some c → y = f c) {b : Int} (gb : g (f b) = some b) : ∀ {R : List Int}, f b ∈ R → (R.filterMap g).idxOf b ≤ R.idxOf (f b) ∧ b ∈ R.filterMap g
  | [], h => nomatch h
  | y :: R, h => by
    by_cases e : y = f b
    · subst e
      rw [List.filterMap_cons, gb]
      simp
    · have h : f b ∈ R := (List.mem_cons.mp h).resolve_left (fun z => e z.symm)
      obtain ⟨h1, h2⟩ := part_le G gb h
      have e2 : (y == f b) = false := by simp [e]
      rw [List.filterMap_cons, List.idxOf_cons, e2]
      cases q : g y with
      | none => simp only [cond_false]; exact ⟨by omega, h2⟩
      | some c =>
        have : c ≠ b := fun z => e (by rw [G y c q, z])
        have e3 : (c == b) = false := by simp [this]
        simp only [List.idxOf_cons, e3, cond_false]
        exact ⟨by omega, List.mem_cons_of_mem _ h2⟩
theorem part_lt {g : Int → Option Int} {f : Int → Int} (G : ∀ y c, g y = some c → y = f c) {a b : Int} (ga : g (f a) = some a) (gb : g (f b) = some b) : ∀ {R : List Int}, f b ∈ R → R.idxOf (f a) < R.idxOf (f b) → (R.filterMap g).idxOf a < (R.filterMap g).idxOf b ∧ (R.filterMap g).idxOf b + R.idxOf (f a) ≤ R.idxOf (f b) + (R.filterMap g).idxOf a
  | [], h, _ => nomatch h
  | y :: R, hy, l => by
    have nb : y ≠ f b := fun e => by subst e; simp at l
    have h : f b ∈ R := (List.mem_cons.mp hy).resolve_left (fun z => nb z.symm)
    have e2 : (y == f b) = false := by simp [nb]
    clear hy
    have z2 : (y :: R).idxOf (f b) = R.idxOf (f b) + 1 := by rw [List.idxOf_cons, e2]; rfl
    rw [z2] at l ⊢
    rw [List.filterMap_cons]
    by_cases e : y = f a
    · subst e
      rw [ga]
      have ne : a ≠ b := fun z => nb (by rw [z])
      have e3 : (a == b) = false := by simp [ne]
      obtain ⟨h1, h2⟩ := part_le G gb h
      simp only [List.idxOf_cons, e3, cond_false, beq_self_eq_true, cond_true]
      omega
    · have e1 : (y == f a) = false := by simp [e]
      have z1 : (y :: R).idxOf (f a) = R.idxOf (f a) + 1 := by rw [List.idxOf_cons, e1]; rfl
      rw [z1] at l ⊢
      obtain ⟨h1, h2⟩ := part_lt G ga gb h (by omega)
      cases q : g y with
      | none => simp only [cond_false]; omega
      | some c =>
        have ca : c ≠ a := fun z => e (by rw [G y c q, z])
        have cb : c ≠ b := fun z => nb (by rw [G y c q, z])
        have e3 : (c == a) = false := by simp [ca]
        have e4 : (c == b) = false := by simp [cb]
        simp only [List.idxOf_cons, e3, e4, cond_false]
        omega
/-- an order within another one: a row of the other, and its part -/
structure Emb (n : Nat) (ps : List Pr) (N : Nat) (PS : List Pr) (f : Int → Int) : Prop where
  rg : ∀ a : Int, 0 ≤ a → a < n → 0 ≤ f a ∧ f a < N
  inj : ∀ a b : Int, 0 ≤ a → a < n → 0 ≤ b → b < n → f a = f b → a = b
  mem : ∀ a b : Int, 0 ≤ a → a < n → 0 ≤ b → b < n → ((a, b) ∈ ps ↔ (f a, f b) ∈ PS)
theorem Emb.row {n N : Nat} {ps PS : List Pr} {f : Int → Int} (E : Emb n ps N PS f) (rp : Rg n ps) {R : List Int} (h : IsRow N PS R) : ∃ r, IsRow n ps r ∧ spanI n ps r ≤ spanI N PS R := by
  let g : Int → Option Int := fun y => (rng n).find? fun c => decide (y = f c)
  have G : ∀ y c, g y = some c → y = f c := fun y c e => by have := List.find?_some e; simpa using this
  have G2 : ∀ y c, g y = some c → 0 ≤ c ∧ c < n := fun y c e => mem_rng.mp (List.mem_of_find?_eq_some e)
  have ga : ∀ a : Int, 0 ≤ a → a < n → g (f a) = some a := fun a a0 a1 => by
    cases q : g (f a) with
    | none =>
      have := List.find?_eq_none.mp q a (mem_rng.mpr ⟨a0, a1⟩)
      simp at this
    | some c =>
      have := G2 _ _ q
      rw [E.inj a c a0 a1 this.1 this.2 (G _ _ q)]
  have mR : ∀ a : Int, 0 ≤ a → a < n → f a ∈ R := fun a a0 a1 => (mem_row h.pm).mpr (E.rg a a0 a1)
  have nd : (R.filterMap g).Nodup := by
    unfold List.Nodup
    rw [List.pairwise_filterMap]
    refine (h.pm.nodup_iff.mpr (rng_nodup N)).imp fun {x y} ne b hb c hc z => ne ?_
    rw [G x b hb, G y c hc, z]
  have pm : (R.filterMap g).Perm (rng n) := (List.perm_ext_iff_of_nodup nd (rng_nodup n)).mpr fun a => by
    rw [mem_rng]
    constructor
    · intro m
      obtain ⟨y, _, e⟩ := List.mem_filterMap.mp m
      exact G2 y a e
    · rintro ⟨a0, a1⟩
      exact (part_le G (ga a a0 a1) (mR a a0 a1)).2
  refine ⟨R.filterMap g, ⟨pm, fun p hp => ?_⟩, ?_⟩
  · obtain ⟨⟨h1, h2⟩, h3, h4⟩ := rp p hp
    exact (part_lt G (ga _ h1 h2) (ga _ h3 h4) (mR _ h3 h4) (h.up _ ((E.mem _ _ h1 h2 h3 h4).mp hp))).1
  · rw [spanI_le]
    refine ⟨span_nn R, fun a b a0 a1 b0 b1 ne x y => ?_⟩
    have q1 := E.rg a a0 a1
    have q2 := E.rg b b0 b1
    have ne2 : f a ≠ f b := fun z => ne (E.inj a b a0 a1 b0 b1 z)
    have le := far_le_span (ps := PS) (row := R) q1.1 q1.2 q2.1 q2.2 ne2 (fun z => x ((E.mem a b a0 a1 b0 b1).mpr z)) (fun z => y ((E.mem b a b0 b1 a0 a1).mpr z))
    have ia := mR a a0 a1
    have ib := mR b b0 b1
    refine Int.le_trans ?_ le
    unfold far
    simp only
    rcases Nat.lt_trichotomy (R.idxOf (f a)) (R.idxOf (f b)) with l | l | l
    · obtain ⟨h1, h2⟩ := part_lt G (ga a a0 a1) (ga b b0 b1) ib l
      unfold absI; split <;> split <;> omega
    · exact absurd (idx_inj ia l) ne2
    · obtain ⟨h1, h2⟩ := part_lt G (ga b b0 b1) (ga a a0 a1) ia l
      unfold absI; split <;> split <;> omega
theorem Emb.le {n N : Nat} {ps PS : List Pr} {f : Int → Int} (E : Emb n ps N PS f) (rp : Rg n ps) {m M : Int} (h : LeastSp n ps m) (H : LeastSp N PS M) : m ≤ M := by
  obtain ⟨R, hR, e⟩ := H.ex
  obtain ⟨r, hr, l⟩ := E.row rp hR
  have := h.le r hr
  omega
def trnL (ps : List Pr) : List Pr := sortP (ps.map fun p => (p.2, p.1))
theorem mem_trnL {ps : List Pr} {a b : Int} : (a, b) ∈ trnL ps ↔ (b, a) ∈ ps := by
  unfold trnL
  rw [mem_sortP, List.mem_map]
  constructor
  · rintro ⟨p, hp, e⟩; cases e; exact hp
  · intro h; exact ⟨(b, a), h, rfl⟩
theorem trnL_len (ps : List Pr) : (trnL ps).length = ps.length := by unfold trnL; rw [(sortP_perm _).length_eq, List.length_map]
theorem trn_rg {n : Nat} {ps : List Pr} (r : Rg n ps) : Rg n (ps.map fun p => (p.2, p.1)) := fun p hp => by
  obtain ⟨q, hq, rfl⟩ := List.mem_map.mp hp
  have := r q hq
  simp only; omega
theorem trn_ord {n : Nat} {ps : List Pr} (o : IsOrd n ps) : IsOrd n (trnL ps) := by
  refine ⟨o.n1, o.n6, fun p hp => ?_, fun a h => o.irr a (mem_trnL.mp h), fun a b c x y => mem_trnL.mpr (o.trn c b a (mem_trnL.mp y) (mem_trnL.mp x)), ?_⟩
  · have := o.rg (p.2, p.1) (mem_trnL.mp (show (p.1, p.2) ∈ _ from hp))
    simp only at this; omega
  · refine ris_sortP (n := n) (trn_rg o.rg) (by have := o.n6; omega) ?_
    unfold List.Nodup
    rw [List.pairwise_map]
    refine o.ris.nodup.imp fun {p q} ne e => ne ?_
    obtain ⟨p1, p2⟩ := p
    obtain ⟨q1, q2⟩ := q
    cases e; rfl
theorem trn_trn {n : Nat} {ps : List Pr} (o : IsOrd n ps) : trnL (trnL ps) = ps := ris_ext (trn_ord (trn_ord o)).ris o.ris fun ⟨a, b⟩ => by rw [mem_trnL, mem_trnL]
theorem trn_allL (n : Nat) (ps : List Pr) : allL n (trnL ps) = allL n ps := by
  unfold allL looseAt
  congr 1
  funext a
  congr 1
  congr 1
  funext b
  unfold nr
  rw [decide_eq_decide.mpr (mem_trnL (ps := ps) (a := a) (b := b)), decide_eq_decide.mpr (mem_trnL (ps := ps) (a := b) (b := a)), Bool.and_comm]
theorem idx_rev : ∀ {l : List Int} {a : Int}, l.Nodup → a ∈ l → l.reverse.idxOf a + 1 + l.idxOf a = l.length
  | [], a, _, h => nomatch h
  | x :: l, a, nd, h => by
    rw [List.reverse_cons]
    have nd' := List.nodup_cons.mp nd
    by_cases e : x = a
    · subst e
      have : x ∉ l.reverse := fun z => nd'.1 (List.mem_reverse.mp z)
      rw [idx_new this]
      simp
    · have h : a ∈ l := (List.mem_cons.mp h).resolve_left (fun z => e z.symm)
      rw [idx_app (List.mem_reverse.mpr h), List.idxOf_cons]
      have e2 : (x == a) = false := by simp [e]
      rw [e2, List.length_cons]
      have := idx_rev nd'.2 h
      simp only [cond_false]; omega
theorem far_rev {l : List Int} (nd : l.Nodup) {a b : Int} (ha : a ∈ l) (hb : b ∈ l) : far l.reverse (a, b) = far l (a, b) := by
  have h1 := idx_rev nd ha
  have h2 := idx_rev nd hb
  unfold far absI
  simp only
  split <;> split <;> omega
theorem trn_row {n : Nat} {ps : List Pr} {row : List Int} (o : IsOrd n ps) (h : IsRow n ps row) : IsRow n (trnL ps) row.reverse := by
  have nd := h.pm.nodup_iff.mpr (rng_nodup n)
  refine ⟨(List.reverse_perm row).trans h.pm, fun p hp => ?_⟩
  have hp := mem_trnL.mp (show (p.1, p.2) ∈ _ from hp)
  have lt := h.up _ hp
  have r := o.rg _ hp
  have h1 := idx_rev nd ((mem_row h.pm).mpr r.1)
  have h2 := idx_rev nd ((mem_row h.pm).mpr r.2)
  simp only at *
  omega
theorem trn_span {n : Nat} {ps : List Pr} {row : List Int} (pm : row.Perm (rng n)) : spanI n (trnL ps) row.reverse = spanI n ps row := by
  unfold spanI
  rw [trn_allL]
  congr 1
  refine List.map_congr_left fun p hp => ?_
  have r := allL_rg n ps p hp
  exact far_rev (pm.nodup_iff.mpr (rng_nodup n)) ((mem_row pm).mpr r.1) ((mem_row pm).mpr r.2)
theorem trn_least {n : Nat} {ps : List Pr} (o : IsOrd n ps) {m : Int} (h : LeastSp n ps m) : LeastSp n (trnL ps) m := by
  obtain ⟨r, hr, e⟩ := h.ex
  refine ⟨⟨r.reverse, trn_row o hr, by rw [trn_span hr.pm, e]⟩, fun q hq => ?_⟩
  have t := trn_row (trn_ord o) hq
  rw [trn_trn o] at t
  have s := trn_span (ps := trnL ps) hq.pm
  rw [trn_trn o] at s
  have := h.le _ t
  omega
end Fn
namespace Fn
open PySem PySem.Spec PyProof.Rows L2 Fx
end Fn
namespace Fn
open PySem PySem.Spec PyProof.Rows L2 Fx
end Fn
namespace Fn
open PySem PySem.Spec PyProof.Rows L2 Fx
end Fn
namespace Fn
open PySem PySem.Spec PyProof.Rows L2 Fx
end Fn
namespace Fn
open PySem PySem.Spec PyProof.Rows L2 Fx
end Fn
namespace Fn
open PySem PySem.Spec PyProof.Rows L2 Fx
end Fn
namespace Fn
open PySem PySem.Spec PyProof.Rows L2 Fx
section
variable {n m : Nat} {ps qs : List Pr}
theorem idx0 (n : Nat) (ps : List Pr) : idxV (ordV n ps) (.int 0) = some (.int n) := by simp [ordV, L2.atI, L2.ixN]
theorem idx1 (n : Nat) (ps : List Pr) : idxV (ordV n ps) (.int 1) = some (.tuple (ps.map P)) := by simp [ordV, L2.atI, L2.ixN]
theorem turned_eq (o : IsOrd n ps) : f_turned [ordV n ps] = .ret (ordV n (trnL ps)) [] := by
  have l := o.len
  have c : s_turned_c0 [some (.s (ordV n ps)), none, none] = .ok (.list ((ps.map fun p => (p.2, p.1)).map P)) [some (.s (ordV n ps)), none, none] := by
    rw [List.map_map]
    refine eLC_map P (P ∘ fun p => (p.2, p.1)) (xs := ps) (ρ1 := [some (.s (ordV n ps)), none, none]) (by simp [ordV, L2.atI, L2.ixN]) (by omega) (fun p _ => ?_) (by simp)
    generalize ordV n ps = oV at *
    simp [lcT, P]
  have sA := sortA_pairs (trn_rg o.rg) (by have := o.n6; omega) (by simp; omega)
  have no := need_ok o
  have i0 := idx0 n ps
  have e : ordV n (trnL ps) = .tuple [.int n, .tuple ((trnL ps).map P)] := rfl
  have lt : (trnL ps).length ≤ 16777216 := by rw [trnL_len]; omega
  rw [f_turned_eq, e]
  unfold trnL at *
  generalize ((ps.map fun p => (p.2, p.1)).map P) = Z at *
  generalize ordV n ps = oV at *
  simp [s_turned, no, i0, c, sA, -idxV]
end
end Fn
namespace Fn
open PySem PySem.Spec PyProof.Rows L2 Fx
end Fn
namespace Fn
open PySem PySem.Spec PyProof.Rows L2 Fx
end Fn
namespace Fn
open PySem PySem.Spec PyProof.Rows L2 Fx
end Fn
namespace Fn
open PySem PySem.Spec PyProof.Rows L2 Fx
end Fn
namespace Fn
open PySem PySem.Spec PyProof.Rows L2 Fx
end Fn
namespace Fn
open PySem PySem.Spec PyProof.Rows L2 Fx
end Fn
namespace Fn
open PySem PySem.Spec PyProof.Rows L2 Fx
end Fn
namespace Fn
open PySem PySem.Spec PyProof.Rows L2 Fx
end Fn
namespace Fn
open PySem PySem.Spec PyProof.Rows L2 Fx
end Fn
namespace Fn
open PySem PySem.Spec PyProof.Rows L2 Fx
end Fn
namespace Fn
open PySem PySem.Spec PyProof.Rows L2 Fx
end Fn
namespace Fn
open PySem PySem.Spec PyProof.Rows L2 Fx
end Fn
namespace Fn
open PySem PySem.Spec PyProof.Rows L2 Fx
section
variable {n : Nat} {ps : List Pr}
structure SInv (n : Nat) (ps : List Pr) (σ L : List Int) (k : Int) : Prop where
  len : σ.length = n
  nd : L.Nodup
  rg : ∀ x ∈ L, 0 ≤ x ∧ x < n
  k0 : 0 ≤ k
  kl : k + L.length ≤ n
  pl : ∀ x : Int, 0 ≤ x → x < n → x ∉ L → 0 ≤ gI σ x ∧ gI σ x < k
  up : ∀ p ∈ ps, p.2 ∉ L → p.1 ∉ L ∧ gI σ p.1 < gI σ p.2
theorem SInv.seat {σ : List Int} {k : Int} (h : SInv n ps σ [] k) (rp : Rg n ps) : IsSeat n ps σ := by
  have kl := h.kl
  simp at kl
  refine ⟨h.len, fun x hx => ?_, fun p hp => (h.up p hp (by simp)).2⟩
  obtain ⟨i, hi⟩ := List.mem_iff_getElem?.mp hx
  have lt := (List.getElem?_eq_some_iff.mp hi).1
  have e : gI σ (i : Int) = x := by
    unfold gI
    rw [List.getD_eq_getElem?_getD, Int.toNat_natCast, hi]; rfl
  have := h.pl (i : Int) (by omega) (by have := h.len; omega) (by simp)
  omega
def putS (k : Int) (b : List Int × List Int) (x : Int) : List Int × List Int := (b.1.set x.toNat k, b.2.eraseIdx (b.2.idxOf x))
end
end Fn
namespace Fn
open PySem PySem.Spec PyProof.Rows L2 Fx
section
variable {n : Nat} {ps : List Pr}
theorem neP_tpI (a b : List Int) : neP (tpI a) (tpI b) = some (!decide (a = b)) := neP_enc EncD.int.tup (by omega) a b
def HasSeat (n : Nat) (ps : List Pr) (k : Int) : Prop := ∃ σ, IsSeat n ps σ ∧ reachI n ps σ ≤ k
theorem MinReach.has {r : Nat} (m : MinReach n ps r) : HasSeat n ps r := by
  obtain ⟨σ, h⟩ := m.is
  cases h with
  | some s b _ => exact ⟨σ, (sol_iff (by omega)).mp ⟨s, b⟩⟩
theorem reach_nn (σ : List Int) : 0 ≤ reachI n ps σ := (reachI_le.mp (Int.le_refl (reachI n ps σ))).1
theorem MinReach.least {r : Nat} (m : MinReach n ps r) {k : Int} (h : HasSeat n ps k) : (r : Int) ≤ k := by
  obtain ⟨σ, hs, hk⟩ := h
  have := reach_nn (n := n) (ps := ps) σ
  apply Classical.byContradiction
  intro c
  obtain ⟨j, rfl⟩ : ∃ j : Nat, k = j := ⟨k.toNat, by omega⟩
  have no := m.no j (by omega)
  obtain ⟨s, b⟩ := (sol_iff (r := (j : Int)) (by omega)).mpr ⟨hs, hk⟩
  cases no with
  | none q => exact q σ s b
theorem MinReach.of {r : Nat} (h : HasSeat n ps r) (l : ∀ k : Int, HasSeat n ps k → (r : Int) ≤ k) {q : Nat} (m : MinReach n ps q) : r = q := by
  have := m.least h
  have := l _ m.has
  omega
def trnS (n : Nat) (σ : List Int) : List Int := σ.map fun x => (n : Int) - 1 - x
theorem trnS_at {σ : List Int} (l : σ.length = n) {i : Int} (h : 0 ≤ i ∧ i < n) : gI (trnS n σ) i = (n : Int) - 1 - gI σ i := by
  unfold gI trnS
  have : i.toNat < σ.length := by omega
  rw [List.getD_eq_getElem?_getD, List.getD_eq_getElem?_getD, List.getElem?_map, List.getElem?_eq_getElem this]
  rfl
theorem trnS_seat (o : IsOrd n ps) {σ : List Int} (h : IsSeat n ps σ) : IsSeat n (trnL ps) (trnS n σ) := by
  refine ⟨by unfold trnS; rw [List.length_map]; exact h.len, fun x hx => ?_, fun p hp => ?_⟩
  · obtain ⟨y, hy, rfl⟩ := List.mem_map.mp hx
    have := h.rg y hy
    omega
  · have hp := mem_trnL.mp (show (p.1, p.2) ∈ _ from hp)
    have r := o.rg _ hp
    have u := h.up _ hp
    simp only at r u
    rw [trnS_at h.len r.1, trnS_at h.len r.2]
    omega
theorem trnS_reach {σ : List Int} (l : σ.length = n) : reachI n (trnL ps) (trnS n σ) = reachI n ps σ := by
  unfold reachI farL
  rw [trn_allL]
  congr 1
  refine List.map_congr_left fun p hp => ?_
  have r := allL_rg n ps p hp
  rw [trnS_at l r.1, trnS_at l r.2]
  unfold absI
  split <;> split <;> omega
theorem HasSeat.trn (o : IsOrd n ps) {k : Int} (h : HasSeat n ps k) : HasSeat n (trnL ps) k := by
  obtain ⟨σ, hs, hk⟩ := h
  exact ⟨trnS n σ, trnS_seat o hs, by rw [trnS_reach hs.len]; exact hk⟩
end
end Fn
namespace Fn
open PySem PySem.Spec PyProof.Rows L2 Fx
end Fn
namespace Fn
open PySem PySem.Spec PyProof.Rows L2 Fx
end Fn
namespace Fn
open PySem PySem.Spec PyProof.Rows L2 Fx
end Fn
namespace Fn
open PySem PySem.Spec PyProof.Rows L2 Fx
end Fn
namespace Fn
open PySem PySem.Spec PyProof.Rows L2 Fx
section
variable {n : Nat} {ps : List Pr}
theorem lsB_symm (a b : Int) : lsB ps a b = lsB ps b a := by
  unfold lsB nr
  rw [show decide (a = b) = decide (b = a) by rw [decide_eq_decide]; exact eq_comm, Bool.and_comm (!decide ((a, b) ∈ ps))]
end
end Fn
namespace Fn
open PySem PySem.Spec PyProof.Rows L2 Fx
end Fn
namespace Fn
open PySem PySem.Spec PyProof.Rows L2 Fx
end Fn
namespace Fn
open PySem PySem.Spec PyProof.Rows L2 Fx
section
variable {n : Nat} {ps : List Pr}
def Bl (n : Nat) (ps : List Pr) (a : Int) : Nat → Int → Prop
  | 0, x => x = a
  | k + 1, x => Bl n ps a k x ∨ ∃ h, Bl n ps a k h ∧ (0 ≤ x ∧ x < n) ∧ lsB ps h x = true
theorem Bl.mono {a x : Int} {k j : Nat} (h : Bl n ps a k x) (l : k ≤ j) : Bl n ps a j x := by
  induction j with
  | zero => have : k = 0 := by omega
            subst this; exact h
  | succ j ih =>
    by_cases c : k = j + 1
    · subst c; exact h
    · exact .inl (ih (by omega))
theorem Bl.rg {a : Int} (ha : 0 ≤ a ∧ a < n) : ∀ {k : Nat} {x : Int}, Bl n ps a k x → 0 ≤ x ∧ x < n
  | 0, x, h => by rw [show x = a from h]; exact ha
  | k + 1, x, h => by
    rcases h with h | ⟨_, _, r, _⟩
    · exact Bl.rg ha h
    · exact r
/-- a thing just so far away has one a step nearer -/
theorem Bl.back {a x : Int} {k : Nat} (h : Bl n ps a (k + 1) x) (nh : ¬ Bl n ps a k x) : ∃ y, Bl n ps a k y ∧ (∀ j, j < k → ¬ Bl n ps a j y) ∧ lsB ps y x = true := by
  rcases h with h | ⟨y, hy, r, ls⟩
  · exact absurd h nh
  · refine ⟨y, hy, fun j hj hb => nh ?_, ls⟩
    exact Bl.mono (k := j + 1) (.inr ⟨y, hb, r, ls⟩) (by omega)
theorem Bl.least {a x : Int} : ∀ {k : Nat}, Bl n ps a k x → ∃ m, m ≤ k ∧ Bl n ps a m x ∧ ∀ j, j < m → ¬ Bl n ps a j x
  | 0, h => ⟨0, Nat.le_refl _, h, fun j hj => absurd hj (Nat.not_lt_zero _)⟩
  | k + 1, h => by
    by_cases c : Bl n ps a k x
    · obtain ⟨m, hm, b⟩ := Bl.least c
      exact ⟨m, by omega, b⟩
    · exact ⟨k + 1, Nat.le_refl _, h, fun j hj hb => c (hb.mono (by omega))⟩
end
end Fn
namespace Fn
open PySem PySem.Spec PyProof.Rows L2 Fx
end Fn
namespace Fn
open PySem PySem.Spec PyProof.Rows L2 Fx
end Fn
namespace Fn
open PySem PySem.Spec PyProof.Rows L2 Fx
end Fn
namespace Fn
open PySem PySem.Spec PyProof.Rows L2 Fx
end Fn
namespace Fn
open PySem PySem.Spec PyProof.Rows L2 Fx
end Fn
namespace Fn
open PySem PySem.Spec PyProof.Rows L2 Fx
end Fn
namespace Fn
open PySem PySem.Spec PyProof.Rows L2 Fx
end Fn
namespace Fn
open PySem PySem.Spec PyProof.Rows L2 Fx
end Fn
namespace Fn
open PySem PySem.Spec PyProof.Rows L2 Fx
end Fn
namespace Fn
open PySem PySem.Spec PyProof.Rows L2 Fx
end Fn
namespace Fn
open PySem PySem.Spec PyProof.Rows L2 Fx
end Fn
namespace Fn
open PySem PySem.Spec PyProof.Rows L2 Fx
end Fn
namespace Fn
open PySem PySem.Spec PyProof.Rows L2 Fx
def goB (ps : List Pr) (p : Pr) : Bool := !decide (p.1 = p.2) && !decide ((p.2, p.1) ∈ ps)
end Fn
namespace Fn
open PySem PySem.Spec PyProof.Rows L2 Fx
end Fn
namespace Fn
open PySem PySem.Spec PyProof.Rows L2 Fx
end Fn
namespace Fn
open PySem PySem.Spec PyProof.Rows L2 Fx
end Fn
namespace Fn
open PySem PySem.Spec PyProof.Rows L2 Fx
def chain : List Int → List Pr
  | [] => []
  | [_] => []
  | x :: y :: t => (x, y) :: chain (y :: t)
theorem chain_len : ∀ p : List Int, (chain p).length = p.length - 1
  | [] => rfl
  | [_] => rfl
  | x :: y :: t => by
    have := chain_len (y :: t)
    simp only [chain, List.length_cons] at this ⊢
    omega
def wt (ps : List Pr) (r : Int) (p : Pr) : Int := if p ∈ ps then 1 else -r
def wsum (ps : List Pr) (r : Int) (L : List Pr) : Int := (L.map (wt ps r)).sum
theorem wsum_le (ps : List Pr) {r : Int} (hr : 0 ≤ r) : ∀ L : List Pr, wsum ps r L ≤ L.length
  | [] => by simp [wsum]
  | p :: L => by
    have := wsum_le ps hr L
    have q : wt ps r p ≤ 1 := by unfold wt; split <;> omega
    unfold wsum at this ⊢
    rw [List.map_cons, List.sum_cons, List.length_cons]
    omega
section
variable {n : Nat} {ps : List Pr}
structure PathTo (n : Nat) (ps : List Pr) (v : Int) (p : List Int) : Prop where
  nd : (p ++ [v]).Nodup
  rg : ∀ x ∈ p ++ [v], 0 ≤ x ∧ x < n
  go : ∀ e ∈ chain (p ++ [v]), goB ps e = true
theorem PathTo.le {v : Int} {p : List Int} (h : PathTo n ps v p) {r : Int} (hr : 0 ≤ r) : wsum ps r (chain (p ++ [v])) < n := by
  have a := wsum_le ps hr (chain (p ++ [v]))
  have b := nodup_le h.nd (m := rng n) fun x hx => mem_rng.mpr (h.rg x hx)
  rw [rng_length] at b
  rw [chain_len] at a
  simp only [List.length_append, List.length_cons, List.length_nil] at a b
  omega
end
end Fn
namespace Fn
open PySem PySem.Spec PyProof.Rows L2 Fx
end Fn
namespace Fn
open PySem PySem.Spec PyProof.Rows L2 Fx
end Fn
namespace Fn
open PySem PySem.Spec PyProof.Rows L2 Fx
end Fn
namespace Fn
open PySem PySem.Spec PyProof.Rows L2 Fx
end Fn
namespace Fn
open PySem PySem.Spec PyProof.Rows L2 Fx
end Fn
namespace Fn
open PySem PySem.Spec PyProof.Rows L2 Fx
end Fn
namespace Fn
open PySem PySem.Spec PyProof.Rows L2 Fx
end Fn
namespace Fn
open PySem PySem.Spec PyProof.Rows L2 Fx
section
variable {n : Nat} {ps : List Pr}
theorem isP_none (c : PV) : isP c .none = some (Fx.isNone c) := by cases c <;> rfl
end
end Fn
namespace Fn
open PySem PySem.Spec PyProof.Rows L2 Fx
end Fn
namespace Fn
open PySem PySem.Spec PyProof.Rows L2 Fx
end Fn
namespace Fn
open PySem PySem.Spec PyProof.Rows L2 Fx
end Fn
namespace Fn
open PySem PySem.Spec PyProof.Rows L2 Fx
end Fn
namespace Fn
open PySem PySem.Spec PyProof.Rows L2 Fx
end Fn
namespace Fn
open PySem PySem.Spec PyProof.Rows L2 Fx
end Fn
namespace Fn
open PySem PySem.Spec PyProof.Rows L2 Fx
end Fn
namespace Fn
open PySem PySem.Spec PyProof.Rows L2 Fx
end Fn
namespace Fn
open PySem PySem.Spec PyProof.Rows L2 Fx
end Fn
namespace Fn
open PySem PySem.Spec PyProof.Rows L2 Fx
end Fn
namespace Fn
open PySem PySem.Spec PyProof.Rows L2 Fx
end Fn
namespace Fn
open PySem PySem.Spec PyProof.Rows L2 Fx
end Fn
namespace Fn
open PySem PySem.Spec PyProof.Rows L2 Fx
end Fn
namespace Fn
open PySem PySem.Spec PyProof.Rows L2 Fx
end Fn
namespace Fn
open PySem PySem.Spec PyProof.Rows L2 Fx
end Fn
namespace Fn
open PySem PySem.Spec PyProof.Rows L2 Fx
end Fn
namespace Fn
open PySem PySem.Spec PyProof.Rows L2 Fx
end Fn
namespace Fn
open PySem PySem.Spec PyProof.Rows L2 Fx
end Fn
namespace Fn
open PySem PySem.Spec PyProof.Rows L2 Fx
end Fn
namespace Fn
open PySem PySem.Spec PyProof.Rows L2 Fx
end Fn
namespace Fn
open PySem PySem.Spec PyProof.Rows L2 Fx
end Fn
namespace Fn
open PySem PySem.Spec PyProof.Rows L2 Fx
end Fn
namespace Fn
open PySem PySem.Spec PyProof.Rows L2 Fx
end Fn
namespace Fn
open PySem PySem.Spec PyProof.Rows L2 Fx
end Fn
namespace Fn
open PySem PySem.Spec PyProof.Rows L2 Fx
section
variable {n : Nat} {ps : List Pr}
theorem Bl.front {a h : Int} (rh : 0 ≤ h ∧ h < n) (ls : lsB ps a h = true) : ∀ {k : Nat} {x : Int}, Bl n ps h k x → Bl n ps a (k + 1) x
  | 0, x, b => by rw [show x = h from b]; exact .inr ⟨a, rfl, rh, ls⟩
  | k + 1, x, b => by
    rcases b with b | ⟨y, hy, rx, l2⟩
    · exact .inl (Bl.front rh ls b)
    · exact .inr ⟨y, Bl.front rh ls hy, rx, l2⟩
theorem Bl.symm {a : Int} (ra : 0 ≤ a ∧ a < n) : ∀ {k : Nat} {x : Int}, Bl n ps a k x → Bl n ps x k a
  | 0, x, b => by rw [show x = a from b]; rfl
  | k + 1, x, b => by
    rcases b with b | ⟨y, hy, rx, l2⟩
    · exact .inl (Bl.symm ra b)
    · have ry := hy.rg ra
      exact Bl.front ry (by rw [lsB_symm]; exact l2) (Bl.symm ra hy)
end
end Fn
namespace Fn
open PySem PySem.Spec PyProof.Rows L2 Fx
end Fn
namespace Fn
open PySem PySem.Spec PyProof.Rows L2 Fx
end Fn
namespace Fn
open PySem PySem.Spec PyProof.Rows L2 Fx
end Fn
namespace Fn
open PySem PySem.Spec PyProof.Rows L2 Fx
end Fn
namespace Fn
open PySem PySem.Spec PyProof.Rows L2 Fx
end Fn
namespace Fn
open PySem PySem.Spec PyProof.Rows L2 Fx
end Fn
namespace Fn
open PySem PySem.Spec PyProof.Rows L2 Fx
end Fn
namespace Fn
open PySem PySem.Spec PyProof.Rows L2 Fx
end Fn
namespace Fn
open PySem PySem.Spec PyProof.Rows L2 Fx
end Fn
namespace Fn
open PySem PySem.Spec PyProof.Rows L2 Fx
theorem fold_max_mem : ∀ (r : List Int) (n : Int), r.foldl max n = n ∨ r.foldl max n ∈ r
  | [], _ => .inl rfl
  | x :: r, n => by
    rw [List.foldl_cons]
    rcases fold_max_mem r (max n x) with h | h
    · rw [h]
      by_cases c : n ≤ x
      · rw [show max n x = x by omega]; exact .inr List.mem_cons_self
      · rw [show max n x = n by omega]; exact .inl rfl
    · exact .inr (List.mem_cons_of_mem _ h)
theorem maxI_mem {xs : List Int} {m : Int} (h : maxI xs = some m) : m ∈ xs := by
  cases xs with
  | nil => cases h
  | cons n r =>
    cases h
    rcases fold_max_mem r n with z | z
    · rw [z]; exact List.mem_cons_self
    · exact List.mem_cons_of_mem _ z
theorem maxI_some {xs : List Int} (h : xs ≠ []) : ∃ m, maxI xs = some m := by
  cases xs with
  | nil => exact absurd rfl h
  | cons n r => exact ⟨_, rfl⟩
theorem maxV_ints {xs : List Int} {m : Int} (h : maxI xs = some m) : maxV [.list (xs.map .int)] = some (.int m) := by
  unfold maxV
  simp only [intsOf_map]
  show Option.map PyData.int (Option.bind (some xs) maxI) = _
  simp only [Option.bind, h, Option.map]
theorem countV_ints (xs : List Int) (k : Int) : countV (.list (xs.map .int)) [.int k] = some (.int (xs.count k : Nat)) := by
  unfold countV
  simp only [intsOf_map]
  rfl
def cntL (xs : List Int) (m : Int) : List Int := (rng (m + 1).toNat).map fun k => ((xs.count k : Nat) : Int)
section
variable {n : Nat} {ps : List Pr}
def spanL (n : Nat) (ps : List Pr) : List Int := (rowsK n ps n).map (spanI n ps)
theorem spanL_max (o : IsOrd n ps) : ∃ m, maxI (spanL n ps) = some m ∧ 0 ≤ m ∧ m < 6 := by
  obtain ⟨m, e⟩ := maxI_some (xs := spanL n ps) (by unfold spanL; simpa using rows_ne o)
  refine ⟨m, e, ?_⟩
  have := maxI_mem e
  unfold spanL at this
  obtain ⟨r, hr, rfl⟩ := List.mem_map.mp this
  have h := (mem_rows o).mp hr
  have := span_lt o h.pm
  have := span_nn (n := n) (ps := ps) r
  have := o.n6
  omega
theorem spans_eq (o : IsOrd n ps) {m : Int} (e : maxI (spanL n ps) = some m) (m0 : 0 ≤ m) (m6 : m < 6) : f_spans [ordV n ps] = .ret (.list ((cntL (spanL n ps) m).map .int)) [] := by
  have e1 := spanned_eq o
  have rl := rows_len o
  have no := need_ok o
  have c : s_spans_c0 [some (.s (ordV n ps)), none, none, none] = .ok (.list ((spanL n ps).map .int)) [some (.s (ordV n ps)), none, none, none] := by
    unfold spanL
    rw [List.map_map]
    refine eLC_map (SpR n ps) (PyData.int ∘ spanI n ps) (xs := rowsK n ps n) (ρ1 := [some (.s (ordV n ps)), none, none, none]) (by simp [e1]) (by omega) (fun row _ => ?_) (by simp)
    unfold SpR
    generalize tpI row = rV at *
    generalize ordV n ps = oV at *
    simp [lcT]
  have mv := maxV_ints e
  have cv := countV_ints (spanL n ps)
  have c1 : s_spans_c1 [some (.s (ordV n ps)), some (.s (.list ((spanL n ps).map .int))), none, none] = .ok (.list ((cntL (spanL n ps) m).map .int)) [some (.s (ordV n ps)), some (.s (.list ((spanL n ps).map .int))), none, none] := by
    unfold cntL
    rw [List.map_map]
    refine eLC_map PyData.int (PyData.int ∘ fun k => (((spanL n ps).count k : Nat) : Int)) (xs := rng (m + 1).toNat) (ρ1 := [some (.s (ordV n ps)), some (.s (.list ((spanL n ps).map .int))), none, none]) (iR1_of (by
      have : (((m + 1).toNat : Nat) : Int) = m + 1 := by omega
      rw [this]
      generalize PyData.list ((spanL n ps).map .int) = Z at *
      generalize ordV n ps = oV at *
      simp [mv]) (by omega)) (by simp; omega) (fun k _ => ?_) (by simp)
    have := cv k
    generalize PyData.list ((spanL n ps).map .int) = Z at *
    generalize ordV n ps = oV at *
    simp [lcT, this]
  rw [f_spans_eq]
  generalize (cntL (spanL n ps) m).map PyData.int = Y at *
  generalize PyData.list ((spanL n ps).map .int) = Z at *
  generalize ordV n ps = oV at *
  simp [s_spans, no, c, c1]
end
theorem atI_getD {α : Type} (L : List α) (d : α) {i : Int} (h : 0 ≤ i ∧ i < L.length) : L2.atI L i = some (L.getD i.toNat d) := by
  have e : ixN L.length i = some i.toNat := by
    unfold ixN
    rw [if_pos h.1]
    first
      | rw [if_pos (by omega)]
      | simp; omega
  unfold L2.atI
  rw [e]
  simp only [Option.bind]
  rw [List.getD_eq_getElem?_getD, List.getElem?_eq_getElem (by omega)]
  rfl
end Fn
namespace Fn
open PySem PySem.Spec PyProof.Rows L2 Fx
theorem up_app : ∀ {a b x y : List Int}, a.length = b.length → a < b → a ++ x < b ++ y
  | [], [], _, _, _, h => absurd h (List.lt_irrefl _)
  | [], b :: r, _, _, e, _ => by simp at e
  | a :: l, [], _, _, e, _ => by simp at e
  | a :: l, b :: r, x, y, e, h => by
    rw [List.cons_append, List.cons_append, List.cons_lt_cons_iff]
    rcases List.cons_lt_cons_iff.mp h with h | ⟨h1, h2⟩
    · exact .inl h
    · exact .inr ⟨h1, up_app (by simpa using e) h2⟩
theorem up_same {x y : Int} (h : x < y) : ∀ a : List Int, a ++ [x] < a ++ [y]
  | [] => List.cons_lt_cons_iff.mpr (.inl h)
  | a :: l => List.cons_lt_cons_iff.mpr (.inr ⟨rfl, up_same h l⟩)
theorem rng_lt (n : Nat) : (rng n).Pairwise (· < ·) := by
  unfold rng
  rw [List.pairwise_map]
  exact List.Pairwise.imp (fun h => by omega) (List.pairwise_lt_range (n := n))
section
variable {n : Nat} {ps : List Pr}
theorem free_up (row : List Int) : (freeL n ps row).Pairwise (· < ·) := ((rng_lt n).filter _).filter _
theorem rows_up (o : IsOrd n ps) : ∀ k, (rowsK n ps k).Pairwise (· < ·)
  | 0 => List.pairwise_singleton _ _
  | k + 1 => by
    show ((rowsK n ps k).flatMap (nextL n ps)).Pairwise (· < ·)
    rw [List.pairwise_flatMap]
    refine ⟨fun r _ => ?_, (rows_up o k).imp_of_mem fun {a b} ha hb h x hx y hy => ?_⟩
    · unfold nextL
      rw [List.pairwise_map]
      exact (free_up r).imp fun h => up_same h r
    · obtain ⟨_, _, rfl⟩ := List.mem_map.mp hx
      obtain ⟨_, _, rfl⟩ := List.mem_map.mp hy
      exact up_app (by rw [((mem_rowsK o).mp ha).2, ((mem_rowsK o).mp hb).2]) h
/-- how many rows of k things there are at most -/
def fallN (n : Nat) : Nat → Nat
  | 0 => 1
  | k + 1 => fallN n k * (n - k)
theorem free_few {row : List Int} (h : Pre n ps row) : (freeL n ps row).length ≤ n - row.length := by
  have nd : (row ++ freeL n ps row).Nodup := by
    refine List.nodup_append.mpr ⟨h.nd, (free_up row).imp (fun h => by omega), fun a ha b hb e => ?_⟩
    subst e
    exact (mem_free.mp hb).2.1 ha
  have := nodup_le (m := rng n) nd fun x hx => by
    rw [mem_rng]
    rcases List.mem_append.mp hx with hx | hx
    · exact h.rg x hx
    · exact (mem_free.mp hx).1
  rw [List.length_append, rng_length] at this
  omega
theorem sum_le {α : Type} (f : α → Nat) (c : Nat) : ∀ l : List α, (∀ x ∈ l, f x ≤ c) → (l.map f).sum ≤ l.length * c
  | [], _ => by simp
  | x :: l, h => by
    have h1 := h x List.mem_cons_self
    have h2 := sum_le f c l fun y hy => h y (List.mem_cons_of_mem _ hy)
    rw [List.map_cons, List.sum_cons, List.length_cons, Nat.add_mul]
    omega
theorem rows_few (o : IsOrd n ps) : ∀ k, (rowsK n ps k).length ≤ fallN n k
  | 0 => Nat.le_refl _
  | k + 1 => by
    show ((rowsK n ps k).flatMap (nextL n ps)).length ≤ _
    rw [List.length_flatMap]
    refine Nat.le_trans (sum_le _ (n - k) _ fun r hr => ?_) (Nat.mul_le_mul_right _ (rows_few o k))
    obtain ⟨p, e⟩ := (mem_rowsK o).mp hr
    unfold nextL
    rw [List.length_map, ← e]
    exact free_few p
theorem rows_720 (o : IsOrd n ps) : (rowsK n ps n).length ≤ 720 := by
  refine Nat.le_trans (rows_few o n) ?_
  have h1 := o.n1
  have h6 := o.n6
  have : n = 1 ∨ n = 2 ∨ n = 3 ∨ n = 4 ∨ n = 5 ∨ n = 6 := by omega
  rcases this with rfl | rfl | rfl | rfl | rfl | rfl <;> decide
theorem best_up (o : IsOrd n ps) (m : Int) : (bestL n ps m).Pairwise (· < ·) := (rows_up o n).filter _
theorem best_few (o : IsOrd n ps) (m : Int) : (bestL n ps m).length ≤ 720 := Nat.le_trans (List.length_filter_le _ _) (rows_720 o)
theorem up_nodup {l : List (List Int)} (h : l.Pairwise (· < ·)) : l.Nodup := List.Pairwise.imp (S := fun a b => a ≠ b) (fun {a b} h e => by subst e; exact List.lt_irrefl _ h) h
theorem up_le {l : List (List Int)} (h : l.Pairwise (· < ·)) : l.Pairwise (fun a b => rowLe a b = true) := h.imp fun h => decide_eq_true (List.le_of_lt h)
theorem best_len (o : IsOrd n ps) {m : Int} {r : List Int} (h : r ∈ bestL n ps m) : r.length = n := row_len ((mem_best o).mp h).1.pm
theorem best_nn (o : IsOrd n ps) {m : Int} {r : List Int} (h : r ∈ bestL n ps m) : r ≠ [] := fun e => by
  have := best_len o h
  have := o.n1
  subst e
  simp at this; omega
theorem rowsP_tp : ∀ l : List (List Int), rowsP (l.map tpI) = some l
  | [] => rfl
  | r :: l => by simp [rowsP, tpI, rowsP_tp l]
/-- sorted(set(best)) is the same -/
theorem best_set (o : IsOrd n ps) (m : Int) : sortSetB (.list ((bestL n ps m).map tpI)) = some (.list ((bestL n ps m).map tpI)) := by
  have u := best_up o m
  have ok : manyRows (bestL n ps m) := ⟨up_nodup u, by have := best_few o m; omega, fun r hr => best_nn o hr⟩
  show (rowsP ((bestL n ps m).map tpI)).bind _ = _
  rw [rowsP_tp]
  simp only [Option.bind_some, ok, if_true]
  rw [rising_self (up_le u)]; rfl
/-- best rows turned about -/
theorem best_turn (o : IsOrd n ps) (m : Int) : sortD [.list (((bestL n ps m).map List.reverse).map tpI)] = some (.list ((bestL n (trnL ps) m).map tpI)) := by
  have u := best_up o m
  have h := sortD_rows ((bestL n ps m).map List.reverse) (fun r hr => by
    obtain ⟨r0, h0, rfl⟩ := List.mem_map.mp hr
    have := best_nn o h0
    simpa using this) (by have := best_few o m; rw [List.length_map]; omega)
  have e : ((bestL n ps m).map List.reverse).mergeSort rowLe = bestL n (trnL ps) m := by
    refine List.Perm.eq_of_pairwise (le := fun a b => rowLe a b = true) (fun a b _ _ h g => rowLe_anti h g) (List.pairwise_mergeSort rowLe_trans rowLe_total _) (up_le (best_up (trn_ord o) m)) ((List.mergeSort_perm _ _).trans ?_)
    have nd : ((bestL n ps m).map List.reverse).Nodup := List.pairwise_map.mpr ((up_nodup u).imp fun ne e => ne (List.reverse_inj.mp e))
    refine (List.perm_ext_iff_of_nodup nd (up_nodup (best_up (trn_ord o) m))).mpr fun r => ?_
    rw [mem_best (trn_ord o), List.mem_map]
    constructor
    · rintro ⟨r0, h0, rfl⟩
      obtain ⟨w, s⟩ := (mem_best o).mp h0
      exact ⟨trn_row o w, (trn_span w.pm).trans s⟩
    · rintro ⟨w, s⟩
      have w2 := trn_row (trn_ord o) w
      have s2 := trn_span (ps := trnL ps) w.pm
      rw [trn_trn o] at w2 s2
      exact ⟨r.reverse, (mem_best o).mpr ⟨w2, s2.trans s⟩, List.reverse_reverse r⟩
  rw [e] at h
  exact h
end
end Fn
namespace Fn
open PySem PySem.Spec PyProof.Rows L2 Fx
theorem one_of {x : Int} : ∀ {l : List Int}, l.Nodup → x ∈ l → (l.map fun k => if x = k then (1 : Int) else 0).sum = 1
  | [], _, h => nomatch h
  | y :: l, nd, h => by
    obtain ⟨n1, n2⟩ := List.nodup_cons.mp nd
    rw [List.map_cons, List.sum_cons]
    by_cases c : x = y
    · subst c
      have z : (l.map fun k => if x = k then (1 : Int) else 0).sum = 0 := by
        clear n2 nd h
        induction l with
        | nil => rfl
        | cons a r ih =>
          rw [List.map_cons, List.sum_cons, if_neg (fun e => n1 (by rw [e]; exact List.mem_cons_self)), ih fun e => n1 (List.mem_cons_of_mem _ e)]; rfl
      rw [if_pos rfl, z]; rfl
    · rw [if_neg c, one_of n2 ((List.mem_cons.mp h).resolve_left c)]; rfl
theorem sum_add {α : Type} (f g : α → Int) : ∀ l : List α, (l.map fun x => f x + g x).sum = (l.map f).sum + (l.map g).sum
  | [] => rfl
  | x :: l => by simp only [List.map_cons, List.sum_cons, sum_add f g l]; omega
theorem cnt_sum {ks : List Int} (nd : ks.Nodup) : ∀ xs : List Int, (∀ x ∈ xs, x ∈ ks) → (ks.map fun k => ((xs.count k : Nat) : Int)).sum = xs.length
  | [], _ => by
    induction ks with
    | nil => rfl
    | cons a r ih => have := ih (List.nodup_cons.mp nd).2; simp at this ⊢; exact this
  | x :: xs, h => by
    have e : (ks.map fun k => (((x :: xs).count k : Nat) : Int)) = ks.map fun k => ((xs.count k : Nat) : Int) + if x = k then (1 : Int) else 0 := by
      refine List.map_congr_left fun k _ => ?_
      rw [List.count_cons]
      by_cases c : x = k
      · simp [c]
      · simp [c]
    rw [e, sum_add, cnt_sum nd xs fun y hy => h y (List.mem_cons_of_mem _ hy), one_of nd (h x List.mem_cons_self), List.length_cons]
    omega
theorem atI_rng {N : Nat} {k : Int} (h : 0 ≤ k ∧ k < N) : L2.atI (rng N) k = some k := by
  have l : (rng N).length = N := rng_length N
  rw [atI_getD (rng N) 0 (by omega)]
  congr 1
  rw [List.getD_eq_getElem?_getD, rng, List.getElem?_map, List.getElem?_range (by omega)]
  simp; omega
theorem cnt_at {xs : List Int} {m k : Int} (h : 0 ≤ k ∧ k ≤ m) : idxV (.list ((cntL xs m).map .int)) (.int k) = some (.int ((xs.count k : Nat) : Int)) := by
  show L2.atI _ k = _
  unfold cntL
  rw [atI_mapF, atI_mapF, atI_rng (by omega)]; rfl
theorem cnt_last {xs : List Int} {m : Int} (m0 : 0 ≤ m) : idxV (.list ((cntL xs m).map .int)) (.int (-1)) = some (.int ((xs.count m : Nat) : Int)) := by
  rw [← cnt_at (xs := xs) (m := m) (k := m) ⟨m0, Int.le_refl _⟩]
  show L2.atI _ (-1) = L2.atI _ m
  have l : ((cntL xs m).map PyData.int).length = (m + 1).toNat := by unfold cntL; simp
  unfold L2.atI L2.ixN
  rw [l, if_neg (by omega), if_pos (by omega), if_pos (by omega), if_pos (by omega)]
  simp only [Option.bind_some]
  congr 1
  omega
theorem cnt_cut {xs : List Int} {m : Int} {k : Nat} (h : (k : Int) ≤ m) (z : ∀ j : Int, 0 ≤ j → j < k → xs.count j = 0) :
    sliceV (.list ((cntL xs m).map .int)) none (some k) = some (.list ((List.replicate k (0 : Int)).map .int)) := by
  unfold sliceV cutL
  simp only [HT.sIx, List.length_map, Option.some.injEq, PyData.list.injEq]
  have l : (cntL xs m).length = (m + 1).toNat := by unfold cntL; simp
  rw [if_neg (by omega), l, ← List.map_drop, ← List.map_take]
  congr 1
  rw [show min (k : Int).toNat (m + 1).toNat = k by omega, List.drop_zero, Nat.sub_zero]
  refine List.ext_getElem (by simp [l]; omega) fun i h1 h2 => ?_
  have hk : i < k := by simpa using h2
  simp only [List.getElem_take, List.getElem_replicate]
  unfold cntL
  simp [rng]
  first
    | exact z i (by omega) (by omega)
    | exact List.count_eq_zero.mp (z i (by omega) (by omega))
theorem fold_max_ge : ∀ (r : List Int) (b : Int), b ≤ r.foldl max b ∧ ∀ x ∈ r, x ≤ r.foldl max b
  | [], b => ⟨Int.le_refl _, fun _ h => nomatch h⟩
  | a :: r, b => by
    obtain ⟨h1, h2⟩ := fold_max_ge r (max b a)
    refine ⟨by rw [List.foldl_cons]; omega, fun x hx => ?_⟩
    rw [List.foldl_cons]
    rcases List.mem_cons.mp hx with rfl | hx
    · omega
    · exact h2 x hx
theorem maxI_ge {xs : List Int} {m : Int} (h : maxI xs = some m) : ∀ x ∈ xs, x ≤ m := by
  cases xs with
  | nil => exact fun _ z => nomatch z
  | cons a r =>
    have e : r.foldl max a = m := by
      unfold maxI at h
      exact Option.some.inj h
    obtain ⟨h1, h2⟩ := fold_max_ge r a
    intro x hx
    rw [← e]
    rcases List.mem_cons.mp hx with rfl | hx
    · exact h1
    · exact h2 x hx
section
variable {n : Nat} {ps : List Pr}
theorem count_span (n : Nat) (ps : List Pr) (k : Int) : (spanL n ps).count k = (bestL n ps k).length := by
  unfold spanL bestL
  generalize rowsK n ps n = R
  induction R with
  | nil => rfl
  | cons r R ih =>
    rw [List.map_cons, List.count_cons, ih, List.filter_cons]
    by_cases c : spanI n ps r = k
    · simp [c]
    · simp [c]
theorem span_in (o : IsOrd n ps) {m : Int} (e : maxI (spanL n ps) = some m) : ∀ x ∈ spanL n ps, x ∈ rng (m + 1).toNat := fun x hx => by
  have h0 : 0 ≤ x := by
    obtain ⟨r, _, rfl⟩ := List.mem_map.mp hx
    exact span_nn r
  have h1 : x ≤ m := maxI_ge e x hx
  rw [mem_rng]; omega
theorem tally_sum (o : IsOrd n ps) {m : Int} (e : maxI (spanL n ps) = some m) : (cntL (spanL n ps) m).sum = ((rowsK n ps n).length : Int) := by
  unfold cntL
  rw [cnt_sum (List.Pairwise.imp (fun h => by omega) (rng_lt _)) _ (span_in o e)]
  unfold spanL
  rw [List.length_map]
theorem least_in (o : IsOrd n ps) {m k : Int} (e : maxI (spanL n ps) = some m) (h : LeastSp n ps k) : 0 ≤ k ∧ k ≤ m := by
  obtain ⟨r, w, rfl⟩ := h.ex
  have hx : spanI n ps r ∈ spanL n ps := List.mem_map.mpr ⟨r, (mem_rows o).mpr w, rfl⟩
  exact ⟨span_nn r, maxI_ge e _ hx⟩
theorem none_less (o : IsOrd n ps) {k : Int} (h : LeastSp n ps k) (j : Int) (hj : j < k) : (spanL n ps).count j = 0 := by
  rw [List.count_eq_zero]
  intro hx
  obtain ⟨r, hr, rfl⟩ := List.mem_map.mp hx
  have := h.le r ((mem_rows o).mp hr)
  omega
theorem last_some {m : Int} (e : maxI (spanL n ps) = some m) : 0 < (spanL n ps).count m := List.count_pos_iff.mpr (maxI_mem e)
/-- no loose pair: span 0, and the other way about -/
theorem zero_iff (o : IsOrd n ps) {k : Int} (h : LeastSp n ps k) : allL n ps = [] ↔ k = 0 := by
  constructor
  · intro e
    obtain ⟨r, w, rfl⟩ := h.ex
    unfold spanI
    rw [e]; rfl
  · rintro rfl
    obtain ⟨r, w, e⟩ := h.ex
    cases c : allL n ps with
    | nil => rfl
    | cons p l =>
      exfalso
      have hp : p ∈ allL n ps := by rw [c]; exact List.mem_cons_self
      obtain ⟨a, b⟩ := p
      obtain ⟨a0, ab, bn, x, y⟩ := mem_allL.mp hp
      dsimp only at a0 ab bn x y
      have f := far_le_span (row := r) (a := a) (b := b) (n := n) (ps := ps) a0 (by omega) (by omega) bn (by omega) x y
      rw [e] at f
      have ia : a ∈ r := (mem_row w.pm).mpr ⟨a0, by omega⟩
      have : r.idxOf a = r.idxOf b := by
        unfold far absI at f
        dsimp only at f
        split at f <;> omega
      have := idx_inj ia this
      omega
end
end Fn
namespace K07
open PySem PySem.Spec PyProof.Rows L2 Fx Fn
section
variable {n : Nat} {ps : List Pr}
/-- a pair more, by which a row goes -/
theorem more_ord (o : IsOrd n ps) {row : List Int} (w : IsRow n ps row) {a b : Int} (ha : 0 ≤ a ∧ a < n) (hb : 0 ≤ b ∧ b < n) (lt : row.idxOf a < row.idxOf b) {cl : List Pr} (c : Cl (ps ++ [(a, b)]) cl) : IsOrd n cl ∧ IsRow n cl row ∧ (∀ p ∈ ps, p ∈ cl) := by
  have up : ∀ p ∈ ps ++ [(a, b)], ((row.idxOf p.1 : Nat) : Int) < (row.idxOf p.2 : Nat) := fun p hp => by
    rcases List.mem_append.mp hp with hp | hp
    · have := w.up p hp; omega
    · rw [List.mem_singleton.mp hp]; dsimp only; omega
  have rg : Rg n (ps ++ [(a, b)]) := fun p hp => by
    rcases List.mem_append.mp hp with hp | hp
    · exact o.rg p hp
    · rw [List.mem_singleton.mp hp]; exact ⟨ha, hb⟩
  have all : ∀ p ∈ cl, row.idxOf p.1 < row.idxOf p.2 := fun ⟨x, y⟩ hp => by
    have := ((c.mem x y).mp hp).rank (rk := fun z => ((row.idxOf z : Nat) : Int)) up
    dsimp only at this ⊢
    omega
  exact ⟨⟨o.n1, o.n6, c.rg rg, fun x hx => Nat.lt_irrefl _ (all _ hx), c.trn, c.ris⟩, ⟨w.pm, all⟩, fun ⟨x, y⟩ hp => (c.mem x y).mpr (.base (List.mem_append_left _ hp))⟩
theorem more_le (o : IsOrd n ps) {row : List Int} {cl : List Pr} (sub : ∀ p ∈ ps, p ∈ cl) (w : IsRow n cl row) {k K : Int} (e : spanI n ps row = k) (H : LeastSp n cl K) : K ≤ k := by
  refine Int.le_trans (H.le row w) ?_
  rw [← e, spanI_le]
  exact ⟨span_nn row, fun a b a0 a1 b0 b1 ne x y => far_le_span a0 a1 b0 b1 ne (fun z => x (sub _ z)) fun z => y (sub _ z)⟩
theorem r_c0 (o : IsOrd n ps) (st : PV) (m : Int) (t : PV) : s_Lright6_c0 [some (.o st), some (.s (ordV n ps)), some (.s (.int m)), some (.s (.list ((bestL n ps m).map tpI))), some (.s t), none, none, none] = .ok (.list []) [some (.o st), some (.s (ordV n ps)), some (.s (.int m)), some (.s (.list ((bestL n ps m).map tpI))), some (.s t), none, none, none] := by
  have few := best_few o m
  have := eLC_filt (tg := .n 5) (vs := [5]) (it := iSeq (eVar 3)) (gt := bOr (bNot (bVal (eFun f_is_row [] (aCons (eVar 1) (aCons (eVar 5) aNil))))) (bCmp neP (pE (eFun f_span_of [] (aCons (eVar 1) (aCons (eVar 5) aNil))) (eVar 2)))) (fe := eVar 5)
    tpI (fun _ => false) tpI (xs := bestL n ps m) (ρ := [some (.o st), some (.s (ordV n ps)), some (.s (.int m)), some (.s (.list ((bestL n ps m).map tpI))), some (.s t), none, none, none]) (ρ1 := [some (.o st), some (.s (ordV n ps)), some (.s (.int m)), some (.s (.list ((bestL n ps m).map tpI))), some (.s t), none, none, none]) (ρ2 := [some (.o st), some (.s (ordV n ps)), some (.s (.int m)), some (.s (.list ((bestL n ps m).map tpI))), some (.s t), none, none, none]) (by simp) (by omega) (fun r hr => by
      obtain ⟨w, sp⟩ := (mem_best o).mp hr
      have so := span_of_eq o w
      rw [sp] at so
      have l6 := o.n6
      obtain ⟨b, ir, ib⟩ := is_row_eq o (fine_row (row := r) (by rw [row_len w.pm]; omega))
      obtain rfl : b = true := ib.mpr (row_iff.mpr w)
      generalize (bestL n ps m).map tpI = Z at *
      generalize tpI r = rV at *
      generalize ordV n ps = oV at *
      simp [lcT, so, ir]) (by simp)
  have e : ((bestL n ps m).filter fun _ => false).map tpI = [] := by simp
  rw [e] at this
  exact this
theorem r_c3 (o : IsOrd n ps) (st x : PV) (m : Int) (t y : PV) (a5 a6 : Option Sv) : s_Lright6_c3 [some (.o st), some (.s x), some (.s (.int m)), some (.s (.list ((bestL n ps m).map tpI))), some (.s t), none, a6, some (.s y)] = .ok (.list (((bestL n ps m).map List.reverse).map tpI)) [some (.o st), some (.s x), some (.s (.int m)), some (.s (.list ((bestL n ps m).map tpI))), some (.s t), none, a6, some (.s y)] := by
  have few := best_few o m
  rw [List.map_map]
  refine eLC_map tpI (tpI ∘ List.reverse) (xs := bestL n ps m) (ρ1 := [some (.o st), some (.s x), some (.s (.int m)), some (.s (.list ((bestL n ps m).map tpI))), some (.s t), none, a6, some (.s y)]) (by simp) (by omega) (fun r _ => ?_) (by simp)
  generalize (bestL n ps m).map tpI = Z at *
  simp [lcT, tpI]
end
theorem sum_intsI : ∀ xs : List Int, sumV [.list (xs.map .int)] = some (.int xs.sum) := fun xs => by simp [sumV]
theorem right_eq (s : Sd) {n : Nat} {ps : List Pr} (o : IsOrd n ps) : ∃ s', f_Lright6 [stV s, ordV n ps] = .ret (.bool true) [stV s'] := by
  obtain ⟨k, l, e1⟩ := least_span_eq o
  have e2 := best_rows_eq o l
  obtain ⟨m, mx, m0, m6⟩ := spanL_max o
  have e3 := spans_eq o mx m0 m6
  obtain ⟨k0, km⟩ := least_in o mx l
  obtain ⟨K, rfl⟩ : ∃ K : Nat, k = K := ⟨k.toNat, by omega⟩
  have g1 := best_set o K
  obtain ⟨r, rs, q, e4⟩ := first_best_eq o l
  have rb : r ∈ bestL n ps K := by rw [q]; exact List.mem_cons_self
  obtain ⟨w, sp⟩ := (mem_best o).mp rb
  have i0 : idxV (.list ((bestL n ps K).map tpI)) (.int 0) = some (tpI r) := by
    rw [q]
    have : (0 : Int) < (rs.length : Int) + 1 := by omega
    simp [L2.atI, L2.ixN, this]
  have ne1 : neP (tpI r) (tpI r) = some false := by rw [neP_tpI]; simp
  have ne2 : neP (.list ((bestL n ps K).map tpI)) (.list ((bestL n ps K).map tpI)) = some false := by
    have := neP_enc (EncD.int.tup.list) (by omega) (bestL n ps K) (bestL n ps K)
    rw [decide_eq_true rfl] at this
    exact this
  have ne3 : neP (.list ((bestL n (trnL ps) K).map tpI)) (.list ((bestL n (trnL ps) K).map tpI)) = some false := by
    have := neP_enc (EncD.int.tup.list) (by omega) (bestL n (trnL ps) K) (bestL n (trnL ps) K)
    rw [decide_eq_true rfl] at this
    exact this
  have ln : lenV [.list ((bestL n ps K).map tpI)] = some (.int ((bestL n ps K).length : Nat)) := by simp
  have ct := cnt_at (xs := spanL n ps) (m := m) (k := K) ⟨k0, km⟩
  rw [count_span] at ct
  have c0 := r_c0 o (stV s) K (.list ((cntL (spanL n ps) m).map .int))
  have sm := sum_intsI (cntL (spanL n ps) m)
  rw [tally_sum o mx] at sm
  have e5 := rows_many_eq o
  have cc := cnt_cut (xs := spanL n ps) km fun j _ hj => none_less o l j hj
  have mz := mulL_zero (n := K) (by omega)
  have ne4 := neP_intsL (List.replicate K (0 : Int)) (List.replicate K 0)
  simp only [decide_true, Bool.not_true] at ne4
  have la := cnt_last (xs := spanL n ps) m0
  have lp := last_some mx
  have nz : eqP (.int (((spanL n ps).count m : Nat) : Int)) (.int 0) = some false := by simp; omega
  obtain ⟨s2, _, l2⟩ := forL_exS (tg := .n 6) (g := sW [6] s_Lright6_b1) (fun _ (_ : Sd) => True) PyData.int (fun s : Sd => [some (.o (stV s)), some (.s (ordV n ps)), some (.s (.int K)), some (.s (.list ((bestL n ps K).map tpI))), some (.s (.list ((cntL (spanL n ps) m).map .int))), none, none, none]) (fun a as b _ => by
    obtain ⟨row, b', hr, e⟩ := Lsome_row_eq o b
    have so := span_of_eq o hr
    have le := l.le row hr
    have nl : ¬ spanI n ps row < (K : Int) := by omega
    refine ⟨b', trivial, ?_⟩
    generalize (bestL n ps K).map tpI = Z at *
    generalize (cntL (spanL n ps) m).map PyData.int = Y at *
    generalize tpI row = rV at *
    generalize ordV n ps = oV at *
    generalize spanI n ps row = sp at *
    simp [turn, s_Lright6_b1, e, so, nl]) (rng 4) s trivial
  have l2' : s_Lright6_l2 [some (.o (stV s)), some (.s (ordV n ps)), some (.s (.int K)), some (.s (.list ((bestL n ps K).map tpI))), some (.s (.list ((cntL (spanL n ps) m).map .int))), none, none, none] = .nx [some (.o (stV s2)), some (.s (ordV n ps)), some (.s (.int K)), some (.s (.list ((bestL n ps K).map tpI))), some (.s (.list ((cntL (spanL n ps) m).map .int))), none, none, none] :=
    (sFor_eq (iR1_of (m := 4) (by simp) (by omega))).trans l2
  have t1 := turned_eq o
  have o' := trn_ord o
  have e6 := best_rows_eq o' (trn_least o l)
  have c3 := r_c3 o (stV s2) (ordV n ps) K (.list ((cntL (spanL n ps) m).map .int)) (ordV n (trnL ps)) none none
  have g2 := best_turn o K
  have e7 : f_least_span [ordV n (trnL ps)] = .ret (.int K) [] := by
    obtain ⟨j, g, e⟩ := least_span_eq o'
    rw [e, g.unique (trn_least o l)]
  have e8 := loose_pairs_eq o
  have e9 := farthest_eq o w
  have zi := zero_iff o l
  have fin : ∃ B : Bool, eqP (.list ((allL n ps).map P)) (.list []) = some B ∧ eqP (.int (K : Int)) (.int 0) = some B ∧ isP (optP ((allL n ps).find? fun p => decide (far r p = spanI n ps r))) .none = some B := by
    refine ⟨decide (allL n ps = []), by simp, ?_, ?_⟩
    · have : eqP (.int (K : Int)) (.int 0) = some (decide ((K : Int) = 0)) := by simp
      rw [this]
      simp only [zi]
    · rw [isP_none]
      by_cases c : allL n ps = []
      · rw [c]; rfl
      · have sp0 : spanI n ps r ∈ (allL n ps).map (far r) := by
          have h1 : 0 < spanI n ps r := by
            have : ((K : Int)) ≠ 0 := fun z => c (zi.mpr z)
            omega
          rcases fold_max_mem ((allL n ps).map (far r)) 0 with h | h
          · exfalso
            have : spanI n ps r = 0 := h
            omega
          · exact h
        obtain ⟨p, hp, e⟩ := List.mem_map.mp sp0
        cases f : (allL n ps).find? fun p => decide (far r p = spanI n ps r) with
        | none => exact absurd (decide_eq_true e) (by have := List.find?_eq_none.mp f p hp; exact this)
        | some p' => rw [decide_eq_false c]; rfl
  obtain ⟨B, f1, f2, f3⟩ := fin
  have bb : eqP (.bool B) (.bool B) = some true := by simp
  refine ⟨s2, ?_⟩
  rw [f_Lright6_eq]
  generalize ((List.replicate K (0 : Int)).map PyData.int) = Rp at *
  generalize (((bestL n ps K).map List.reverse).map tpI) = Rv at *
  generalize (((bestL n ps K).length : Nat) : Int) = bl at *
  generalize (bestL n ps K).map tpI = Z at *
  generalize (bestL n (trnL ps) K).map tpI = Z' at *
  generalize (cntL (spanL n ps) m).map PyData.int = Y at *
  generalize optP ((allL n ps).find? fun p => decide (far r p = spanI n ps r)) = fp at *
  generalize ((allL n ps).map P) = Al at *
  generalize tpI r = rV at *
  generalize ordV n (trnL ps) = oT at *
  generalize ordV n ps = oV at *
  generalize (((rowsK n ps n).length : Nat) : Int) = rl at *
  generalize (((spanL n ps).count m : Nat) : Int) = cm at *
  generalize (K : Int) = kI at *
  have n0 : neP (.list []) (.list []) = some false := by kernel_rfl
  have nb : neP (.int bl) (.int bl) = some false := by simp
  have nr : neP (.int rl) (.int rl) = some false := by simp
  have nk : neP (.int kI) (.int kI) = some false := by simp
  simp [s_Lright6, e1, e2, e3, g1, ne2, e4, i0, ne1, ln, ct, nb, c0, n0, sm, e5, nr, cc, mz, ne4, la, nz, l2', t1, e6, c3, g2, ne3, e7, nk, e8, e9, f1, f2, f3, bb, -idxV, -lenV, -mulL, -isP, -neP_int, -eqP_int, -eqP_bool]
theorem turn_b0 (ns : List Int) (k : Nat) : turn (.n 1) (sW [1, 2, 3, 4, 5, 6, 7] s_law_b0) (.int k) [some (.s (scr ns)), none, none, none, none, none, none, none] = .nx [some (.s (scr ns)), none, none, none, none, none, none, none] := by
  have st := state_eq ns k
  obtain ⟨n, ps, s1, o, _, e1⟩ := Lorder_eq (stateR ns k) 6 (by omega) (by omega)
  obtain ⟨s2, e2⟩ := right_eq s1 o
  have e3 := loose_pairs_eq o
  by_cases c : allL n ps = []
  · rw [c] at e3
    have n0 : neP (.list ([].map P)) (.list []) = some false := by kernel_rfl
    simp only [List.map_nil] at e3 n0
    generalize ordV n ps = oV at *
    simp [turn, s_law_b0, st, e1, e2, e3, n0]
  · have n1 : neP (.list ((allL n ps).map P)) (.list []) = some true := by rw [neP_nilP, decide_eq_false c]; rfl
    obtain ⟨K, l, e4⟩ := least_span_eq o
    obtain ⟨r, rs, q, e5⟩ := first_best_eq o l
    have rb : r ∈ bestL n ps K := by rw [q]; exact List.mem_cons_self
    obtain ⟨w, sp⟩ := (mem_best o).mp rb
    have pl := o.len
    have al : 0 < (allL n ps).length := List.length_pos_iff.mpr c
    have l2 : (allL n ps).length ≤ 1000 := by have := allL_len n ps; have := sq_le o.n6; omega
    have ln : lenV [.list ((allL n ps).map P)] = some (.int ((allL n ps).length : Nat)) := by simp
    have t1 := take_eq s2 ((allL n ps).length : Int) (by omega) (by omega)
    have b1 := takeR_bd s2 (m := ((allL n ps).length : Int)) (by omega)
    generalize takeS s2 ((allL n ps).length : Int) = s3 at t1
    generalize takeR s2 ((allL n ps).length : Int) = j at t1 b1
    obtain ⟨⟨a, b⟩, ix, mem⟩ := atI_some b1.1 b1.2
    obtain ⟨a0, ab, bn, _, _⟩ := mem_allL.mp mem
    dsimp only at a0 ab bn
    have ix' : idxV (.list ((allL n ps).map P)) (.int j) = some (.tuple [.int a, .int b]) := by
      show L2.atI _ j = _
      rw [atI_mapF, ix]; rfl
    have ia := indexT ((mem_row w.pm (a := a)).mpr ⟨a0, by omega⟩)
    have ib := indexT ((mem_row w.pm (a := b)).mpr ⟨by omega, bn⟩)
    have i0 := idx0 n ps
    have i1 := idx1 n ps
    have lv : listV [.tuple (ps.map P)] = some (.list (ps.map P)) := by simp
    have step : ∀ x y : Int, (0 ≤ x ∧ x < n) → (0 ≤ y ∧ y < n) → r.idxOf x < r.idxOf y → ∃ cl J, addL (.list (ps.map P)) (.list [.tuple [.int x, .int y]]) = some (.list ((ps ++ [(x, y)]).map P)) ∧ f_order_of [.int n, .list ((ps ++ [(x, y)]).map P)] = .ret (ordV n cl) [] ∧ f_least_span [ordV n cl] = .ret (.int J) [] ∧ ¬ K < J := by
      intro x y hx hy lt
      have rg : Rg n (ps ++ [(x, y)]) := fun p hp => by
        rcases List.mem_append.mp hp with hp | hp
        · exact o.rg p hp
        · rw [List.mem_singleton.mp hp]; exact ⟨hx, hy⟩
      obtain ⟨cl, c, _, e⟩ := order_of_list o.n1 o.n6 rg (by rw [List.length_append, List.length_singleton]; omega)
      obtain ⟨oc, wc, sub⟩ := more_ord o w hx hy lt c
      obtain ⟨J, lJ, eJ⟩ := least_span_eq oc
      have le := more_le o sub wc sp lJ
      have ad : addL (.list (ps.map P)) (.list [.tuple [.int x, .int y]]) = some (.list ((ps ++ [(x, y)]).map P)) := by
        rw [List.map_append]
        simp [P]; omega
      exact ⟨cl, J, ad, e oc.irr, eJ, by omega⟩
    have ne : r.idxOf a ≠ r.idxOf b := fun z => by
      have := idx_inj ((mem_row w.pm (a := a)).mpr ⟨a0, by omega⟩) z
      omega
    by_cases d : r.idxOf b < r.idxOf a
    · obtain ⟨cl, J, ad, e6, e7, e8⟩ := step b a ⟨by omega, bn⟩ ⟨a0, by omega⟩ d
      have g : ((r.idxOf b : Nat) : Int) < ((r.idxOf a : Nat) : Int) := by omega
      unfold tpI at e5
      generalize PyData.list ((ps ++ [(b, a)]).map P) = vA at *
      generalize ordV n cl = vC at *
      generalize PyData.tuple (r.map .int) = rV at *
      generalize (ps.map P) = psV at *
      generalize ((allL n ps).map P) = Al at *
      generalize ordV n ps = oV at *
      generalize (((allL n ps).length : Nat) : Int) = N at *
      generalize ((r.idxOf a : Nat) : Int) = xa at *
      generalize ((r.idxOf b : Nat) : Int) = xb at *
      simp [turn, s_law_b0, st, e1, e2, e3, n1, e5, ln, t1, ix', ia, ib, g, i0, i1, lv, ad, e6, e7, e4, e8, -idxV, -lenV, -addL, -listV]
    · obtain ⟨cl, J, ad, e6, e7, e8⟩ := step a b ⟨a0, by omega⟩ ⟨by omega, bn⟩ (by omega)
      have g : ¬ ((r.idxOf b : Nat) : Int) < ((r.idxOf a : Nat) : Int) := by omega
      unfold tpI at e5
      generalize PyData.list ((ps ++ [(a, b)]).map P) = vA at *
      generalize ordV n cl = vC at *
      generalize PyData.tuple (r.map .int) = rV at *
      generalize (ps.map P) = psV at *
      generalize ((allL n ps).map P) = Al at *
      generalize ordV n ps = oV at *
      generalize (((allL n ps).length : Nat) : Int) = N at *
      generalize ((r.idxOf a : Nat) : Int) = xa at *
      generalize ((r.idxOf b : Nat) : Int) = xb at *
      simp [turn, s_law_b0, st, e1, e2, e3, n1, e5, ln, t1, ix', ia, ib, g, i0, i1, lv, ad, e6, e7, e4, e8, -idxV, -lenV, -addL, -listV]
theorem plain (ns : List Int) (_ : ns.length ≤ 63) (_ : ∀ z ∈ ns, PySem.Builtin.Int.intBits z ≤ 1048576) : f_law [scr ns] = .ret (.bool true) [] := by
  have l := cells_loop ns 3 (by omega) (by omega) (turn_b0 ns)
  have l1 : s_law_l1 [some (.s (scr ns)), none, none, none, none, none, none, none] = .nx [some (.s (scr ns)), none, none, none, none, none, none, none] := l
  rw [f_law_eq]
  simp [s_law, l1]
end K07
namespace K07
open PySem PySem.Spec PyProof.Rows L2 Fx Fn
theorem facts {l : PySem.W.OpenLaw} {w : World} {K : PySem.W.Frag} {h : Heap} {mg : Str → Option Value} {fa : Addr} (X : K.In h) (G : h.Ns mainGlobals mg) (hfa : mg "law" = some (.ref fa))
    {f9 : Addr} {oc9 kV9 dc9 pm9 ct9 : Value} {od9 an9 : Option Addr} {sl9 : Array (Option Value)} {cd9 : Value}
    {f10 : Addr} {oc10 kV10 dc10 pm10 ct10 : Value} {od10 an10 : Option Addr} {sl10 : Array (Option Value)} {cd10 : Value}
    {f11 : Addr} {oc11 kV11 dc11 pm11 ct11 : Value} {od11 an11 : Option Addr} {sl11 : Array (Option Value)} {cd11 : Value}
    {f12 : Addr} {oc12 kV12 dc12 pm12 ct12 : Value} {od12 an12 : Option Addr} {sl12 : Array (Option Value)} {cd12 : Value}
    {f13 : Addr} {oc13 kV13 dc13 pm13 ct13 : Value} {od13 an13 : Option Addr} {sl13 : Array (Option Value)} {cd13 : Value}
    {f14 : Addr} {oc14 kV14 dc14 pm14 ct14 : Value} {od14 an14 : Option Addr} {sl14 : Array (Option Value)} {cd14 : Value}
    {f15 : Addr} {oc15 kV15 dc15 pm15 ct15 : Value} {od15 an15 : Option Addr} {sl15 : Array (Option Value)} {cd15 : Value}
    {f16 : Addr} {oc16 kV16 dc16 pm16 ct16 : Value} {od16 an16 : Option Addr} {sl16 : Array (Option Value)} {cd16 : Value}
    {f17 : Addr} {oc17 kV17 dc17 pm17 ct17 : Value} {od17 an17 : Option Addr} {sl17 : Array (Option Value)} {cd17 : Value}
    {f18 : Addr} {oc18 kV18 dc18 pm18 ct18 : Value} {od18 an18 : Option Addr} {sl18 : Array (Option Value)} {cd18 : Value}
    {f19 : Addr} {oc19 kV19 dc19 pm19 ct19 : Value} {od19 an19 : Option Addr} {sl19 : Array (Option Value)} {cd19 : Value}
    {f20 : Addr} {oc20 kV20 dc20 pm20 ct20 : Value} {od20 an20 : Option Addr} {sl20 : Array (Option Value)} {cd20 : Value}
    {f22 : Addr} {oc22 kV22 dc22 pm22 ct22 : Value} {od22 an22 : Option Addr} {sl22 : Array (Option Value)} {cd22 : Value}
    {f23 : Addr} {oc23 kV23 dc23 pm23 ct23 : Value} {od23 an23 : Option Addr} {sl23 : Array (Option Value)} {cd23 : Value}
    {f24 : Addr} {oc24 kV24 dc24 pm24 ct24 : Value} {od24 an24 : Option Addr} {sl24 : Array (Option Value)} {cd24 : Value}
    {f25 : Addr} {oc25 kV25 dc25 pm25 ct25 : Value} {od25 an25 : Option Addr} {sl25 : Array (Option Value)} {cd25 : Value}
    {f26 : Addr} {oc26 kV26 dc26 pm26 ct26 : Value} {od26 an26 : Option Addr} {sl26 : Array (Option Value)} {cd26 : Value}
    {f27 : Addr} {oc27 kV27 dc27 pm27 ct27 : Value} {od27 an27 : Option Addr} {sl27 : Array (Option Value)} {cd27 : Value}
    {f28 : Addr} {oc28 kV28 dc28 pm28 ct28 : Value} {od28 an28 : Option Addr} {sl28 : Array (Option Value)} {cd28 : Value}
    {f29 : Addr} {oc29 kV29 dc29 pm29 ct29 : Value} {od29 an29 : Option Addr} {sl29 : Array (Option Value)} {cd29 : Value}
    {f30 : Addr} {oc30 kV30 dc30 pm30 ct30 : Value} {od30 an30 : Option Addr} {sl30 : Array (Option Value)} {cd30 : Value}
    {f31 : Addr} {oc31 kV31 dc31 pm31 ct31 : Value} {od31 an31 : Option Addr} {sl31 : Array (Option Value)} {cd31 : Value}
    {f33 : Addr} {oc33 kV33 dc33 pm33 ct33 : Value} {od33 an33 : Option Addr} {sl33 : Array (Option Value)} {cd33 : Value}
    {f34 : Addr} {oc34 kV34 dc34 pm34 ct34 : Value} {od34 an34 : Option Addr} {sl34 : Array (Option Value)} {cd34 : Value}
    {f35 : Addr} {oc35 kV35 dc35 pm35 ct35 : Value} {od35 an35 : Option Addr} {sl35 : Array (Option Value)} {cd35 : Value}
    {f36 : Addr} {oc36 kV36 dc36 pm36 ct36 : Value} {od36 an36 : Option Addr} {sl36 : Array (Option Value)} {cd36 : Value}
    {f37 : Addr} {oc37 kV37 dc37 pm37 ct37 : Value} {od37 an37 : Option Addr} {sl37 : Array (Option Value)} {cd37 : Value}
    {f38 : Addr} {oc38 kV38 dc38 pm38 ct38 : Value} {od38 an38 : Option Addr} {sl38 : Array (Option Value)} {cd38 : Value}
    {f39 : Addr} {oc39 kV39 dc39 pm39 ct39 : Value} {od39 an39 : Option Addr} {sl39 : Array (Option Value)} {cd39 : Value}
    {f41 : Addr} {oc41 kV41 dc41 pm41 ct41 : Value} {od41 an41 : Option Addr} {sl41 : Array (Option Value)} {cd41 : Value}
    {f42 : Addr} {oc42 kV42 dc42 pm42 ct42 : Value} {od42 an42 : Option Addr} {sl42 : Array (Option Value)} {cd42 : Value}
    {f43 : Addr} {oc43 kV43 dc43 pm43 ct43 : Value} {od43 an43 : Option Addr} {sl43 : Array (Option Value)} {cd43 : Value}
    {f44 : Addr} {oc44 kV44 dc44 pm44 ct44 : Value} {od44 an44 : Option Addr} {sl44 : Array (Option Value)} {cd44 : Value}
    {f45 : Addr} {oc45 kV45 dc45 pm45 ct45 : Value} {od45 an45 : Option Addr} {sl45 : Array (Option Value)} {cd45 : Value}
    {f46 : Addr} {oc46 kV46 dc46 pm46 ct46 : Value} {od46 an46 : Option Addr} {sl46 : Array (Option Value)} {cd46 : Value}
    {f47 : Addr} {oc47 kV47 dc47 pm47 ct47 : Value} {od47 an47 : Option Addr} {sl47 : Array (Option Value)} {cd47 : Value}
    {f48 : Addr} {oc48 kV48 dc48 pm48 ct48 : Value} {od48 an48 : Option Addr} {sl48 : Array (Option Value)} {cd48 : Value}
    {f49 : Addr} {oc49 kV49 dc49 pm49 ct49 : Value} {od49 an49 : Option Addr} {sl49 : Array (Option Value)} {cd49 : Value}
    {gu_MOST : Value}
    {D_NoOrder : Addr}
    {D_NoNumber : Addr}
    {D_NoPairs : Addr}
    {D_Round : Addr}
    {D_NoRow : Addr}
    (a9 : PySem.W.nsIn K mainGlobals "is_whole" = some (some (.ref f9)))
    (l9 : K.lookup f9 = some ⟨oc9, od9, .func (PySem.W.fnOf "is_whole" "is_whole" (defArgs (top 9)) (defBody (top 9)) (defScope (top 9)) .none kV9 dc9 pm9 an9 cd9 ct9), sl9⟩)
    (c9 : PySem.W.codeIn K cd9 "is_whole" = true)
    (k9 : PySem.W.keepIn K (.ref f9) = true)
    (a10 : PySem.W.nsIn K mainGlobals "is_thing" = some (some (.ref f10)))
    (l10 : K.lookup f10 = some ⟨oc10, od10, .func (PySem.W.fnOf "is_thing" "is_thing" (defArgs (top 10)) (defBody (top 10)) (defScope (top 10)) .none kV10 dc10 pm10 an10 cd10 ct10), sl10⟩)
    (c10 : PySem.W.codeIn K cd10 "is_thing" = true)
    (k10 : PySem.W.keepIn K (.ref f10) = true)
    (a11 : PySem.W.nsIn K mainGlobals "is_number" = some (some (.ref f11)))
    (l11 : K.lookup f11 = some ⟨oc11, od11, .func (PySem.W.fnOf "is_number" "is_number" (defArgs (top 11)) (defBody (top 11)) (defScope (top 11)) .none kV11 dc11 pm11 an11 cd11 ct11), sl11⟩)
    (c11 : PySem.W.codeIn K cd11 "is_number" = true)
    (k11 : PySem.W.keepIn K (.ref f11) = true)
    (a12 : PySem.W.nsIn K mainGlobals "is_pair" = some (some (.ref f12)))
    (l12 : K.lookup f12 = some ⟨oc12, od12, .func (PySem.W.fnOf "is_pair" "is_pair" (defArgs (top 12)) (defBody (top 12)) (defScope (top 12)) .none kV12 dc12 pm12 an12 cd12 ct12), sl12⟩)
    (c12 : PySem.W.codeIn K cd12 "is_pair" = true)
    (k12 : PySem.W.keepIn K (.ref f12) = true)
    (a13 : PySem.W.nsIn K mainGlobals "closed" = some (some (.ref f13)))
    (l13 : K.lookup f13 = some ⟨oc13, od13, .func (PySem.W.fnOf "closed" "closed" (defArgs (top 13)) (defBody (top 13)) (defScope (top 13)) .none kV13 dc13 pm13 an13 cd13 ct13), sl13⟩)
    (c13 : PySem.W.codeIn K cd13 "closed" = true)
    (k13 : PySem.W.keepIn K (.ref f13) = true)
    (a14 : PySem.W.nsIn K mainGlobals "is_order" = some (some (.ref f14)))
    (l14 : K.lookup f14 = some ⟨oc14, od14, .func (PySem.W.fnOf "is_order" "is_order" (defArgs (top 14)) (defBody (top 14)) (defScope (top 14)) .none kV14 dc14 pm14 an14 cd14 ct14), sl14⟩)
    (c14 : PySem.W.codeIn K cd14 "is_order" = true)
    (k14 : PySem.W.keepIn K (.ref f14) = true)
    (a15 : PySem.W.nsIn K mainGlobals "need_order" = some (some (.ref f15)))
    (l15 : K.lookup f15 = some ⟨oc15, od15, .func (PySem.W.fnOf "need_order" "need_order" (defArgs (top 15)) (defBody (top 15)) (defScope (top 15)) .none kV15 dc15 pm15 an15 cd15 ct15), sl15⟩)
    (c15 : PySem.W.codeIn K cd15 "need_order" = true)
    (k15 : PySem.W.keepIn K (.ref f15) = true)
    (a16 : PySem.W.nsIn K mainGlobals "order_of" = some (some (.ref f16)))
    (l16 : K.lookup f16 = some ⟨oc16, od16, .func (PySem.W.fnOf "order_of" "order_of" (defArgs (top 16)) (defBody (top 16)) (defScope (top 16)) .none kV16 dc16 pm16 an16 cd16 ct16), sl16⟩)
    (c16 : PySem.W.codeIn K cd16 "order_of" = true)
    (k16 : PySem.W.keepIn K (.ref f16) = true)
    (a17 : PySem.W.nsIn K mainGlobals "are_loose" = some (some (.ref f17)))
    (l17 : K.lookup f17 = some ⟨oc17, od17, .func (PySem.W.fnOf "are_loose" "are_loose" (defArgs (top 17)) (defBody (top 17)) (defScope (top 17)) .none kV17 dc17 pm17 an17 cd17 ct17), sl17⟩)
    (c17 : PySem.W.codeIn K cd17 "are_loose" = true)
    (k17 : PySem.W.keepIn K (.ref f17) = true)
    (a18 : PySem.W.nsIn K mainGlobals "all_loose" = some (some (.ref f18)))
    (l18 : K.lookup f18 = some ⟨oc18, od18, .func (PySem.W.fnOf "all_loose" "all_loose" (defArgs (top 18)) (defBody (top 18)) (defScope (top 18)) .none kV18 dc18 pm18 an18 cd18 ct18), sl18⟩)
    (c18 : PySem.W.codeIn K cd18 "all_loose" = true)
    (k18 : PySem.W.keepIn K (.ref f18) = true)
    (a19 : PySem.W.nsIn K mainGlobals "loose_pairs" = some (some (.ref f19)))
    (l19 : K.lookup f19 = some ⟨oc19, od19, .func (PySem.W.fnOf "loose_pairs" "loose_pairs" (defArgs (top 19)) (defBody (top 19)) (defScope (top 19)) .none kV19 dc19 pm19 an19 cd19 ct19), sl19⟩)
    (c19 : PySem.W.codeIn K cd19 "loose_pairs" = true)
    (k19 : PySem.W.keepIn K (.ref f19) = true)
    (a20 : PySem.W.nsIn K mainGlobals "turned" = some (some (.ref f20)))
    (l20 : K.lookup f20 = some ⟨oc20, od20, .func (PySem.W.fnOf "turned" "turned" (defArgs (top 20)) (defBody (top 20)) (defScope (top 20)) .none kV20 dc20 pm20 an20 cd20 ct20), sl20⟩)
    (c20 : PySem.W.codeIn K cd20 "turned" = true)
    (k20 : PySem.W.keepIn K (.ref f20) = true)
    (a22 : PySem.W.nsIn K mainGlobals "row_good" = some (some (.ref f22)))
    (l22 : K.lookup f22 = some ⟨oc22, od22, .func (PySem.W.fnOf "row_good" "row_good" (defArgs (top 22)) (defBody (top 22)) (defScope (top 22)) .none kV22 dc22 pm22 an22 cd22 ct22), sl22⟩)
    (c22 : PySem.W.codeIn K cd22 "row_good" = true)
    (k22 : PySem.W.keepIn K (.ref f22) = true)
    (a23 : PySem.W.nsIn K mainGlobals "is_row" = some (some (.ref f23)))
    (l23 : K.lookup f23 = some ⟨oc23, od23, .func (PySem.W.fnOf "is_row" "is_row" (defArgs (top 23)) (defBody (top 23)) (defScope (top 23)) .none kV23 dc23 pm23 an23 cd23 ct23), sl23⟩)
    (c23 : PySem.W.codeIn K cd23 "is_row" = true)
    (k23 : PySem.W.keepIn K (.ref f23) = true)
    (a24 : PySem.W.nsIn K mainGlobals "need_row" = some (some (.ref f24)))
    (l24 : K.lookup f24 = some ⟨oc24, od24, .func (PySem.W.fnOf "need_row" "need_row" (defArgs (top 24)) (defBody (top 24)) (defScope (top 24)) .none kV24 dc24 pm24 an24 cd24 ct24), sl24⟩)
    (c24 : PySem.W.codeIn K cd24 "need_row" = true)
    (k24 : PySem.W.keepIn K (.ref f24) = true)
    (a25 : PySem.W.nsIn K mainGlobals "may_come" = some (some (.ref f25)))
    (l25 : K.lookup f25 = some ⟨oc25, od25, .func (PySem.W.fnOf "may_come" "may_come" (defArgs (top 25)) (defBody (top 25)) (defScope (top 25)) .none kV25 dc25 pm25 an25 cd25 ct25), sl25⟩)
    (c25 : PySem.W.codeIn K cd25 "may_come" = true)
    (k25 : PySem.W.keepIn K (.ref f25) = true)
    (a26 : PySem.W.nsIn K mainGlobals "rows_of" = some (some (.ref f26)))
    (l26 : K.lookup f26 = some ⟨oc26, od26, .func (PySem.W.fnOf "rows_of" "rows_of" (defArgs (top 26)) (defBody (top 26)) (defScope (top 26)) .none kV26 dc26 pm26 an26 cd26 ct26), sl26⟩)
    (c26 : PySem.W.codeIn K cd26 "rows_of" = true)
    (k26 : PySem.W.keepIn K (.ref f26) = true)
    (a27 : PySem.W.nsIn K mainGlobals "rows_many" = some (some (.ref f27)))
    (l27 : K.lookup f27 = some ⟨oc27, od27, .func (PySem.W.fnOf "rows_many" "rows_many" (defArgs (top 27)) (defBody (top 27)) (defScope (top 27)) .none kV27 dc27 pm27 an27 cd27 ct27), sl27⟩)
    (c27 : PySem.W.codeIn K cd27 "rows_many" = true)
    (k27 : PySem.W.keepIn K (.ref f27) = true)
    (a28 : PySem.W.nsIn K mainGlobals "apart" = some (some (.ref f28)))
    (l28 : K.lookup f28 = some ⟨oc28, od28, .func (PySem.W.fnOf "apart" "apart" (defArgs (top 28)) (defBody (top 28)) (defScope (top 28)) .none kV28 dc28 pm28 an28 cd28 ct28), sl28⟩)
    (c28 : PySem.W.codeIn K cd28 "apart" = true)
    (k28 : PySem.W.keepIn K (.ref f28) = true)
    (a29 : PySem.W.nsIn K mainGlobals "span_by" = some (some (.ref f29)))
    (l29 : K.lookup f29 = some ⟨oc29, od29, .func (PySem.W.fnOf "span_by" "span_by" (defArgs (top 29)) (defBody (top 29)) (defScope (top 29)) .none kV29 dc29 pm29 an29 cd29 ct29), sl29⟩)
    (c29 : PySem.W.codeIn K cd29 "span_by" = true)
    (k29 : PySem.W.keepIn K (.ref f29) = true)
    (a30 : PySem.W.nsIn K mainGlobals "span_of" = some (some (.ref f30)))
    (l30 : K.lookup f30 = some ⟨oc30, od30, .func (PySem.W.fnOf "span_of" "span_of" (defArgs (top 30)) (defBody (top 30)) (defScope (top 30)) .none kV30 dc30 pm30 an30 cd30 ct30), sl30⟩)
    (c30 : PySem.W.codeIn K cd30 "span_of" = true)
    (k30 : PySem.W.keepIn K (.ref f30) = true)
    (a31 : PySem.W.nsIn K mainGlobals "farthest" = some (some (.ref f31)))
    (l31 : K.lookup f31 = some ⟨oc31, od31, .func (PySem.W.fnOf "farthest" "farthest" (defArgs (top 31)) (defBody (top 31)) (defScope (top 31)) .none kV31 dc31 pm31 an31 cd31 ct31), sl31⟩)
    (c31 : PySem.W.codeIn K cd31 "farthest" = true)
    (k31 : PySem.W.keepIn K (.ref f31) = true)
    (a33 : PySem.W.nsIn K mainGlobals "spanned" = some (some (.ref f33)))
    (l33 : K.lookup f33 = some ⟨oc33, od33, .func (PySem.W.fnOf "spanned" "spanned" (defArgs (top 33)) (defBody (top 33)) (defScope (top 33)) .none kV33 dc33 pm33 an33 cd33 ct33), sl33⟩)
    (c33 : PySem.W.codeIn K cd33 "spanned" = true)
    (k33 : PySem.W.keepIn K (.ref f33) = true)
    (a34 : PySem.W.nsIn K mainGlobals "least_of" = some (some (.ref f34)))
    (l34 : K.lookup f34 = some ⟨oc34, od34, .func (PySem.W.fnOf "least_of" "least_of" (defArgs (top 34)) (defBody (top 34)) (defScope (top 34)) .none kV34 dc34 pm34 an34 cd34 ct34), sl34⟩)
    (c34 : PySem.W.codeIn K cd34 "least_of" = true)
    (k34 : PySem.W.keepIn K (.ref f34) = true)
    (a35 : PySem.W.nsIn K mainGlobals "least_span" = some (some (.ref f35)))
    (l35 : K.lookup f35 = some ⟨oc35, od35, .func (PySem.W.fnOf "least_span" "least_span" (defArgs (top 35)) (defBody (top 35)) (defScope (top 35)) .none kV35 dc35 pm35 an35 cd35 ct35), sl35⟩)
    (c35 : PySem.W.codeIn K cd35 "least_span" = true)
    (k35 : PySem.W.keepIn K (.ref f35) = true)
    (a36 : PySem.W.nsIn K mainGlobals "spans" = some (some (.ref f36)))
    (l36 : K.lookup f36 = some ⟨oc36, od36, .func (PySem.W.fnOf "spans" "spans" (defArgs (top 36)) (defBody (top 36)) (defScope (top 36)) .none kV36 dc36 pm36 an36 cd36 ct36), sl36⟩)
    (c36 : PySem.W.codeIn K cd36 "spans" = true)
    (k36 : PySem.W.keepIn K (.ref f36) = true)
    (a37 : PySem.W.nsIn K mainGlobals "best_of" = some (some (.ref f37)))
    (l37 : K.lookup f37 = some ⟨oc37, od37, .func (PySem.W.fnOf "best_of" "best_of" (defArgs (top 37)) (defBody (top 37)) (defScope (top 37)) .none kV37 dc37 pm37 an37 cd37 ct37), sl37⟩)
    (c37 : PySem.W.codeIn K cd37 "best_of" = true)
    (k37 : PySem.W.keepIn K (.ref f37) = true)
    (a38 : PySem.W.nsIn K mainGlobals "best_rows" = some (some (.ref f38)))
    (l38 : K.lookup f38 = some ⟨oc38, od38, .func (PySem.W.fnOf "best_rows" "best_rows" (defArgs (top 38)) (defBody (top 38)) (defScope (top 38)) .none kV38 dc38 pm38 an38 cd38 ct38), sl38⟩)
    (c38 : PySem.W.codeIn K cd38 "best_rows" = true)
    (k38 : PySem.W.keepIn K (.ref f38) = true)
    (a39 : PySem.W.nsIn K mainGlobals "first_best" = some (some (.ref f39)))
    (l39 : K.lookup f39 = some ⟨oc39, od39, .func (PySem.W.fnOf "first_best" "first_best" (defArgs (top 39)) (defBody (top 39)) (defScope (top 39)) .none kV39 dc39 pm39 an39 cd39 ct39), sl39⟩)
    (c39 : PySem.W.codeIn K cd39 "first_best" = true)
    (k39 : PySem.W.keepIn K (.ref f39) = true)
    (a41 : PySem.W.nsIn K mainGlobals "_law_cell_at" = some (some (.ref f41)))
    (l41 : K.lookup f41 = some ⟨oc41, od41, .func (PySem.W.fnOf "_law_cell_at" "_law_cell_at" (defArgs (top 41)) (defBody (top 41)) (defScope (top 41)) .none kV41 dc41 pm41 an41 cd41 ct41), sl41⟩)
    (c41 : PySem.W.codeIn K cd41 "_law_cell_at" = true)
    (k41 : PySem.W.keepIn K (.ref f41) = true)
    (a42 : PySem.W.nsIn K mainGlobals "_law_state" = some (some (.ref f42)))
    (l42 : K.lookup f42 = some ⟨oc42, od42, .func (PySem.W.fnOf "_law_state" "_law_state" (defArgs (top 42)) (defBody (top 42)) (defScope (top 42)) .none kV42 dc42 pm42 an42 cd42 ct42), sl42⟩)
    (c42 : PySem.W.codeIn K cd42 "_law_state" = true)
    (k42 : PySem.W.keepIn K (.ref f42) = true)
    (a43 : PySem.W.nsIn K mainGlobals "_law_take" = some (some (.ref f43)))
    (l43 : K.lookup f43 = some ⟨oc43, od43, .func (PySem.W.fnOf "_law_take" "_law_take" (defArgs (top 43)) (defBody (top 43)) (defScope (top 43)) .none kV43 dc43 pm43 an43 cd43 ct43), sl43⟩)
    (c43 : PySem.W.codeIn K cd43 "_law_take" = true)
    (k43 : PySem.W.keepIn K (.ref f43) = true)
    (a44 : PySem.W.nsIn K mainGlobals "_law_mixed_row" = some (some (.ref f44)))
    (l44 : K.lookup f44 = some ⟨oc44, od44, .func (PySem.W.fnOf "_law_mixed_row" "_law_mixed_row" (defArgs (top 44)) (defBody (top 44)) (defScope (top 44)) .none kV44 dc44 pm44 an44 cd44 ct44), sl44⟩)
    (c44 : PySem.W.codeIn K cd44 "_law_mixed_row" = true)
    (k44 : PySem.W.keepIn K (.ref f44) = true)
    (a45 : PySem.W.nsIn K mainGlobals "_law_closed" = some (some (.ref f45)))
    (l45 : K.lookup f45 = some ⟨oc45, od45, .func (PySem.W.fnOf "_law_closed" "_law_closed" (defArgs (top 45)) (defBody (top 45)) (defScope (top 45)) .none kV45 dc45 pm45 an45 cd45 ct45), sl45⟩)
    (c45 : PySem.W.codeIn K cd45 "_law_closed" = true)
    (k45 : PySem.W.keepIn K (.ref f45) = true)
    (a46 : PySem.W.nsIn K mainGlobals "_law_order" = some (some (.ref f46)))
    (l46 : K.lookup f46 = some ⟨oc46, od46, .func (PySem.W.fnOf "_law_order" "_law_order" (defArgs (top 46)) (defBody (top 46)) (defScope (top 46)) .none kV46 dc46 pm46 an46 cd46 ct46), sl46⟩)
    (c46 : PySem.W.codeIn K cd46 "_law_order" = true)
    (k46 : PySem.W.keepIn K (.ref f46) = true)
    (a47 : PySem.W.nsIn K mainGlobals "_law_some_row" = some (some (.ref f47)))
    (l47 : K.lookup f47 = some ⟨oc47, od47, .func (PySem.W.fnOf "_law_some_row" "_law_some_row" (defArgs (top 47)) (defBody (top 47)) (defScope (top 47)) .none kV47 dc47 pm47 an47 cd47 ct47), sl47⟩)
    (c47 : PySem.W.codeIn K cd47 "_law_some_row" = true)
    (k47 : PySem.W.keepIn K (.ref f47) = true)
    (a48 : PySem.W.nsIn K mainGlobals "_law_right" = some (some (.ref f48)))
    (l48 : K.lookup f48 = some ⟨oc48, od48, .func (PySem.W.fnOf "_law_right" "_law_right" (defArgs (top 48)) (defBody (top 48)) (defScope (top 48)) .none kV48 dc48 pm48 an48 cd48 ct48), sl48⟩)
    (c48 : PySem.W.codeIn K cd48 "_law_right" = true)
    (k48 : PySem.W.keepIn K (.ref f48) = true)
    (a49 : PySem.W.nsIn K mainGlobals "law" = some (some (.ref f49)))
    (l49 : K.lookup f49 = some ⟨oc49, od49, .func (PySem.W.fnOf "law" "law" (defArgs (top 49)) (defBody (top 49)) (defScope (top 49)) .none kV49 dc49 pm49 an49 cd49 ct49), sl49⟩)
    (c49 : PySem.W.codeIn K cd49 "law" = true)
    (k49 : PySem.W.keepIn K (.ref f49) = true)
    (z_abs : PySem.W.nsIn K mainGlobals "abs" = some none)
    (z_all : PySem.W.nsIn K mainGlobals "all" = some none)
    (z_any : PySem.W.nsIn K mainGlobals "any" = some none)
    (z_bool : PySem.W.nsIn K mainGlobals "bool" = some none)
    (z_dict : PySem.W.nsIn K mainGlobals "dict" = some none)
    (z_int : PySem.W.nsIn K mainGlobals "int" = some none)
    (z_isinstance : PySem.W.nsIn K mainGlobals "isinstance" = some none)
    (z_len : PySem.W.nsIn K mainGlobals "len" = some none)
    (z_list : PySem.W.nsIn K mainGlobals "list" = some none)
    (z_max : PySem.W.nsIn K mainGlobals "max" = some none)
    (z_min : PySem.W.nsIn K mainGlobals "min" = some none)
    (z_range : PySem.W.nsIn K mainGlobals "range" = some none)
    (z_set : PySem.W.nsIn K mainGlobals "set" = some none)
    (z_sorted : PySem.W.nsIn K mainGlobals "sorted" = some none)
    (z_sum : PySem.W.nsIn K mainGlobals "sum" = some none)
    (z_tuple : PySem.W.nsIn K mainGlobals "tuple" = some none)
    (g_MOST : PySem.W.nsIn K mainGlobals "MOST" = some (some gu_MOST))
    (gr_MOST : RelV (.int 6) gu_MOST)
    (da_NoOrder : PySem.W.nsIn K mainGlobals "NoOrder" = some (some (.ref D_NoOrder)))
    (df_NoOrder : ClsF K D_NoOrder)
    (da_NoNumber : PySem.W.nsIn K mainGlobals "NoNumber" = some (some (.ref D_NoNumber)))
    (df_NoNumber : ClsF K D_NoNumber)
    (da_NoPairs : PySem.W.nsIn K mainGlobals "NoPairs" = some (some (.ref D_NoPairs)))
    (df_NoPairs : ClsF K D_NoPairs)
    (da_Round : PySem.W.nsIn K mainGlobals "Round" = some (some (.ref D_Round)))
    (df_Round : ClsF K D_Round)
    (da_NoRow : PySem.W.nsIn K mainGlobals "NoRow" = some (some (.ref D_NoRow)))
    (df_NoRow : ClsF K D_NoRow)
    (plain : ∀ ns : List Int, ns.length ≤ 63 → (∀ z ∈ ns, Builtin.Int.intBits z ≤ 1048576) → f_law [scr ns] = .ret (.bool true) []) :
    LamX.LawAtS l w K (L2.CX l.prog w) 8 63 "_law_script" mg fa h := by
  have hB : BN mg := ⟨PySem.W.mg_none_of X G z_abs, PySem.W.mg_none_of X G z_all, PySem.W.mg_none_of X G z_any, PySem.W.mg_none_of X G z_bool, PySem.W.mg_none_of X G z_dict, PySem.W.mg_none_of X G z_int, PySem.W.mg_none_of X G z_isinstance, PySem.W.mg_none_of X G z_len, PySem.W.mg_none_of X G z_list, PySem.W.mg_none_of X G z_max, PySem.W.mg_none_of X G z_min, PySem.W.mg_none_of X G z_range, PySem.W.mg_none_of X G z_set, PySem.W.mg_none_of X G z_sorted, PySem.W.mg_none_of X G z_sum, PySem.W.mg_none_of X G z_tuple⟩
  let xc : Nat → Value := fun c => (([D_NoOrder, D_NoNumber, D_NoPairs, D_Round, D_NoOrder, D_NoRow] : List Addr).map Value.ref).getD c .none
  refine law_end (T := []) (cs := []) (xc := xc) X G hfa a49 l49 (fun _ _ => .of_eq rfl) rfl ?_ ?_ plain ?_
  · exact fun p hp => nomatch hp
  · exact fun p hp => nomatch hp
  · intro base TB
    have R_NoOrder : RaiseD K mg xc 0 "NoOrder" := raiseF X G rfl da_NoOrder df_NoOrder (by decide)
    have R_NoNumber : RaiseD K mg xc 1 "NoNumber" := raiseF X G rfl da_NoNumber df_NoNumber (by decide)
    have R_NoPairs : RaiseD K mg xc 2 "NoPairs" := raiseF X G rfl da_NoPairs df_NoPairs (by decide)
    have R_Round : RaiseD K mg xc 3 "Round" := raiseF X G rfl da_Round df_Round (by decide)
    have R_NoRow : RaiseD K mg xc 5 "NoRow" := raiseF X G rfl da_NoRow df_NoRow (by decide)
    have G_MOST : GI mg "MOST" 6 := gi_mk X G g_MOST gr_MOST
    have D_is_whole := ok_is_whole (P := l.prog) (w := w) (base := base) (T := []) (xc := xc) (at_mk X G a9 l9 c9 k9) hB
    have D_is_thing := ok_is_thing (P := l.prog) (w := w) (base := base) (T := []) (xc := xc) (at_mk X G a10 l10 c10 k10) hB D_is_whole
    have D_is_number := ok_is_number (P := l.prog) (w := w) (base := base) (T := []) (xc := xc) (at_mk X G a11 l11 c11 k11) hB D_is_whole G_MOST
    have D_is_pair := ok_is_pair (P := l.prog) (w := w) (base := base) (T := []) (xc := xc) (at_mk X G a12 l12 c12 k12) hB D_is_thing
    have D_closed := ok_closed (P := l.prog) (w := w) (base := base) (T := []) (xc := xc) (at_mk X G a13 l13 c13 k13) hB
    have D_is_order := ok_is_order (P := l.prog) (w := w) (base := base) (T := []) (xc := xc) (at_mk X G a14 l14 c14 k14) hB D_is_number D_is_pair D_closed
    have D_need_order := ok_need_order (P := l.prog) (w := w) (base := base) (T := []) (xc := xc) (at_mk X G a15 l15 c15 k15) hB D_is_order R_NoOrder
    have D_order_of := ok_order_of (P := l.prog) (w := w) (base := base) (T := []) (xc := xc) (at_mk X G a16 l16 c16 k16) hB D_is_number D_is_pair D_closed R_NoNumber R_NoPairs R_Round
    have D_are_loose := ok_are_loose (P := l.prog) (w := w) (base := base) (T := []) (xc := xc) (at_mk X G a17 l17 c17 k17) hB
    have D_all_loose := ok_all_loose (P := l.prog) (w := w) (base := base) (T := []) (xc := xc) (at_mk X G a18 l18 c18 k18) hB D_are_loose
    have D_loose_pairs := ok_loose_pairs (P := l.prog) (w := w) (base := base) (T := []) (xc := xc) (at_mk X G a19 l19 c19 k19) hB D_need_order D_all_loose
    have D_turned := ok_turned (P := l.prog) (w := w) (base := base) (T := []) (xc := xc) (at_mk X G a20 l20 c20 k20) hB D_need_order
    have D_row_good := ok_row_good (P := l.prog) (w := w) (base := base) (T := []) (xc := xc) (at_mk X G a22 l22 c22 k22) hB D_is_thing
    have D_is_row := ok_is_row (P := l.prog) (w := w) (base := base) (T := []) (xc := xc) (at_mk X G a23 l23 c23 k23) hB D_need_order D_row_good
    have D_need_row := ok_need_row (P := l.prog) (w := w) (base := base) (T := []) (xc := xc) (at_mk X G a24 l24 c24 k24) hB D_row_good R_NoRow
    have D_may_come := ok_may_come (P := l.prog) (w := w) (base := base) (T := []) (xc := xc) (at_mk X G a25 l25 c25 k25) hB
    have D_rows_of := ok_rows_of (P := l.prog) (w := w) (base := base) (T := []) (xc := xc) (at_mk X G a26 l26 c26 k26) hB D_may_come
    have D_rows_many := ok_rows_many (P := l.prog) (w := w) (base := base) (T := []) (xc := xc) (at_mk X G a27 l27 c27 k27) hB D_need_order D_rows_of
    have D_apart := ok_apart (P := l.prog) (w := w) (base := base) (T := []) (xc := xc) (at_mk X G a28 l28 c28 k28) hB
    have D_span_by := ok_span_by (P := l.prog) (w := w) (base := base) (T := []) (xc := xc) (at_mk X G a29 l29 c29 k29) hB D_apart
    have D_span_of := ok_span_of (P := l.prog) (w := w) (base := base) (T := []) (xc := xc) (at_mk X G a30 l30 c30 k30) hB D_need_order D_all_loose D_need_row D_span_by
    have D_farthest := ok_farthest (P := l.prog) (w := w) (base := base) (T := []) (xc := xc) (at_mk X G a31 l31 c31 k31) hB D_need_order D_all_loose D_need_row D_apart D_span_by
    have D_spanned := ok_spanned (P := l.prog) (w := w) (base := base) (T := []) (xc := xc) (at_mk X G a33 l33 c33 k33) hB D_all_loose D_rows_of D_span_by
    have D_least_of := ok_least_of (P := l.prog) (w := w) (base := base) (T := []) (xc := xc) (at_mk X G a34 l34 c34 k34) hB D_spanned
    have D_least_span := ok_least_span (P := l.prog) (w := w) (base := base) (T := []) (xc := xc) (at_mk X G a35 l35 c35 k35) hB D_need_order D_least_of
    have D_spans := ok_spans (P := l.prog) (w := w) (base := base) (T := []) (xc := xc) (at_mk X G a36 l36 c36 k36) hB D_need_order D_spanned
    have D_best_of := ok_best_of (P := l.prog) (w := w) (base := base) (T := []) (xc := xc) (at_mk X G a37 l37 c37 k37) hB D_spanned
    have D_best_rows := ok_best_rows (P := l.prog) (w := w) (base := base) (T := []) (xc := xc) (at_mk X G a38 l38 c38 k38) hB D_need_order D_best_of
    have D_first_best := ok_first_best (P := l.prog) (w := w) (base := base) (T := []) (xc := xc) (at_mk X G a39 l39 c39 k39) hB D_need_order D_best_of
    have D__law_cell_at := ok__law_cell_at (P := l.prog) (w := w) (base := base) (T := []) (xc := xc) (at_mk X G a41 l41 c41 k41) hB
    have D__law_state := ok__law_state (P := l.prog) (w := w) (base := base) (T := []) (xc := xc) (at_mk X G a42 l42 c42 k42) hB D__law_cell_at
    have D__law_take := ok__law_take (P := l.prog) (w := w) (base := base) (T := []) (xc := xc) (at_mk X G a43 l43 c43 k43) hB
    have D__law_mixed_row := ok__law_mixed_row (P := l.prog) (w := w) (base := base) (T := []) (xc := xc) (at_mk X G a44 l44 c44 k44) hB D__law_take
    have D__law_closed := ok__law_closed (P := l.prog) (w := w) (base := base) (T := []) (xc := xc) (at_mk X G a45 l45 c45 k45) hB
    have D__law_order := ok__law_order (P := l.prog) (w := w) (base := base) (T := []) (xc := xc) (at_mk X G a46 l46 c46 k46) hB D__law_take D__law_mixed_row D__law_closed
    have D__law_some_row := ok__law_some_row (P := l.prog) (w := w) (base := base) (T := []) (xc := xc) (at_mk X G a47 l47 c47 k47) hB D__law_take
    have D__law_right := ok__law_right (P := l.prog) (w := w) (base := base) (T := []) (xc := xc) (at_mk X G a48 l48 c48 k48) hB D_loose_pairs D_turned D_is_row D_rows_many D_span_of D_farthest D_least_span D_spans D_best_rows D_first_best D__law_some_row
    have D_law := ok_law (P := l.prog) (w := w) (base := base) (T := []) (xc := xc) (at_mk X G a49 l49 c49 k49) hB D_order_of D_loose_pairs D_least_span D_first_best D__law_state D__law_take D__law_order D__law_right
    exact D_law
end K07
open PySem PySem.W PyProof.Rows
set_option maxRecDepth 100000 in
set_option maxHeartbeats 0 in
theorem PySem.Challenge.cw_nearorders_k07_whole_nearest_rows_holds : PySem.Challenge.rw_nearorders_k07_whole_nearest_rows.Holds := by
  w_on; o_law; k_head; (case hw => w_witness2)
  k_fill
  refine Fx.walkT (l := PySem.Challenge.rw_nearorders_k07_whole_nearest_rows) (n := 63) (k := 8) (x := "_law_script") rfl (by decide) rfl ⟨rfl, by decide, by decide⟩ (fun w h Y => by first | exact PySem.W.kIn_of Y | exact PySem.W.km_in_of Y) ?F
  case F =>
    intro w mg fa h Y KX G hmg tab
    refine' K07.facts KX G hmg ?a9 ?l9 ?c9 ?k9 ?a10 ?l10 ?c10 ?k10 ?a11 ?l11 ?c11 ?k11 ?a12 ?l12 ?c12 ?k12 ?a13 ?l13 ?c13 ?k13 ?a14 ?l14 ?c14 ?k14 ?a15 ?l15 ?c15 ?k15 ?a16 ?l16 ?c16 ?k16 ?a17 ?l17 ?c17 ?k17 ?a18 ?l18 ?c18 ?k18 ?a19 ?l19 ?c19 ?k19 ?a20 ?l20 ?c20 ?k20 ?a22 ?l22 ?c22 ?k22 ?a23 ?l23 ?c23 ?k23 ?a24 ?l24 ?c24 ?k24 ?a25 ?l25 ?c25 ?k25 ?a26 ?l26 ?c26 ?k26 ?a27 ?l27 ?c27 ?k27 ?a28 ?l28 ?c28 ?k28 ?a29 ?l29 ?c29 ?k29 ?a30 ?l30 ?c30 ?k30 ?a31 ?l31 ?c31 ?k31 ?a33 ?l33 ?c33 ?k33 ?a34 ?l34 ?c34 ?k34 ?a35 ?l35 ?c35 ?k35 ?a36 ?l36 ?c36 ?k36 ?a37 ?l37 ?c37 ?k37 ?a38 ?l38 ?c38 ?k38 ?a39 ?l39 ?c39 ?k39 ?a41 ?l41 ?c41 ?k41 ?a42 ?l42 ?c42 ?k42 ?a43 ?l43 ?c43 ?k43 ?a44 ?l44 ?c44 ?k44 ?a45 ?l45 ?c45 ?k45 ?a46 ?l46 ?c46 ?k46 ?a47 ?l47 ?c47 ?k47 ?a48 ?l48 ?c48 ?k48 ?a49 ?l49 ?c49 ?k49 ?z_abs ?z_all ?z_any ?z_bool ?z_dict ?z_int ?z_isinstance ?z_len ?z_list ?z_max ?z_min ?z_range ?z_set ?z_sorted ?z_sum ?z_tuple ?g_MOST ?gr_MOST ?da_NoOrder ?df_NoOrder ?da_NoNumber ?df_NoNumber ?da_NoPairs ?df_NoPairs ?da_Round ?df_Round ?da_NoRow ?df_NoRow K07.plain
    (case a9 => k_is)
    (case l9 => k_is)
    (case c9 => k_is)
    (case k9 => k_is)
    (case a10 => k_is)
    (case l10 => k_is)
    (case c10 => k_is)
    (case k10 => k_is)
    (case a11 => k_is)
    (case l11 => k_is)
    (case c11 => k_is)
    (case k11 => k_is)
    (case a12 => k_is)
    (case l12 => k_is)
    (case c12 => k_is)
    (case k12 => k_is)
    (case a13 => k_is)
    (case l13 => k_is)
    (case c13 => k_is)
    (case k13 => k_is)
    (case a14 => k_is)
    (case l14 => k_is)
    (case c14 => k_is)
    (case k14 => k_is)
    (case a15 => k_is)
    (case l15 => k_is)
    (case c15 => k_is)
    (case k15 => k_is)
    (case a16 => k_is)
    (case l16 => k_is)
    (case c16 => k_is)
    (case k16 => k_is)
    (case a17 => k_is)
    (case l17 => k_is)
    (case c17 => k_is)
    (case k17 => k_is)
    (case a18 => k_is)
    (case l18 => k_is)
    (case c18 => k_is)
    (case k18 => k_is)
    (case a19 => k_is)
    (case l19 => k_is)
    (case c19 => k_is)
    (case k19 => k_is)
    (case a20 => k_is)
    (case l20 => k_is)
    (case c20 => k_is)
    (case k20 => k_is)
    (case a22 => k_is)
    (case l22 => k_is)
    (case c22 => k_is)
    (case k22 => k_is)
    (case a23 => k_is)
    (case l23 => k_is)
    (case c23 => k_is)
    (case k23 => k_is)
    (case a24 => k_is)
    (case l24 => k_is)
    (case c24 => k_is)
    (case k24 => k_is)
    (case a25 => k_is)
    (case l25 => k_is)
    (case c25 => k_is)
    (case k25 => k_is)
    (case a26 => k_is)
    (case l26 => k_is)
    (case c26 => k_is)
    (case k26 => k_is)
    (case a27 => k_is)
    (case l27 => k_is)
    (case c27 => k_is)
    (case k27 => k_is)
    (case a28 => k_is)
    (case l28 => k_is)
    (case c28 => k_is)
    (case k28 => k_is)
    (case a29 => k_is)
    (case l29 => k_is)
    (case c29 => k_is)
    (case k29 => k_is)
    (case a30 => k_is)
    (case l30 => k_is)
    (case c30 => k_is)
    (case k30 => k_is)
    (case a31 => k_is)
    (case l31 => k_is)
    (case c31 => k_is)
    (case k31 => k_is)
    (case a33 => k_is)
    (case l33 => k_is)
    (case c33 => k_is)
    (case k33 => k_is)
    (case a34 => k_is)
    (case l34 => k_is)
    (case c34 => k_is)
    (case k34 => k_is)
    (case a35 => k_is)
    (case l35 => k_is)
    (case c35 => k_is)
    (case k35 => k_is)
    (case a36 => k_is)
    (case l36 => k_is)
    (case c36 => k_is)
    (case k36 => k_is)
    (case a37 => k_is)
    (case l37 => k_is)
    (case c37 => k_is)
    (case k37 => k_is)
    (case a38 => k_is)
    (case l38 => k_is)
    (case c38 => k_is)
    (case k38 => k_is)
    (case a39 => k_is)
    (case l39 => k_is)
    (case c39 => k_is)
    (case k39 => k_is)
    (case a41 => k_is)
    (case l41 => k_is)
    (case c41 => k_is)
    (case k41 => k_is)
    (case a42 => k_is)
    (case l42 => k_is)
    (case c42 => k_is)
    (case k42 => k_is)
    (case a43 => k_is)
    (case l43 => k_is)
    (case c43 => k_is)
    (case k43 => k_is)
    (case a44 => k_is)
    (case l44 => k_is)
    (case c44 => k_is)
    (case k44 => k_is)
    (case a45 => k_is)
    (case l45 => k_is)
    (case c45 => k_is)
    (case k45 => k_is)
    (case a46 => k_is)
    (case l46 => k_is)
    (case c46 => k_is)
    (case k46 => k_is)
    (case a47 => k_is)
    (case l47 => k_is)
    (case c47 => k_is)
    (case k47 => k_is)
    (case a48 => k_is)
    (case l48 => k_is)
    (case c48 => k_is)
    (case k48 => k_is)
    (case a49 => k_is)
    (case l49 => k_is)
    (case c49 => k_is)
    (case k49 => k_is)
    (case z_abs => k_is)
    (case z_all => k_is)
    (case z_any => k_is)
    (case z_bool => k_is)
    (case z_dict => k_is)
    (case z_int => k_is)
    (case z_isinstance => k_is)
    (case z_len => k_is)
    (case z_list => k_is)
    (case z_max => k_is)
    (case z_min => k_is)
    (case z_range => k_is)
    (case z_set => k_is)
    (case z_sorted => k_is)
    (case z_sum => k_is)
    (case z_tuple => k_is)
    (case g_MOST => k_is)
    (case gr_MOST => exact ⟨_, rfl⟩)
    (case da_NoOrder => k_is)
    (case df_NoOrder => exact ⟨by first | k_is | kernel_rfl, by first | k_is | kernel_rfl, by first | k_is | kernel_rfl, ⟨by first | k_is | kernel_rfl, by first | k_is | kernel_rfl, by first | k_is | kernel_rfl, by first | k_is | kernel_rfl, by first | k_is | kernel_rfl, by first | k_is | kernel_rfl, by first | k_is | kernel_rfl, by first | k_is | kernel_rfl⟩⟩)
    (case da_NoNumber => k_is)
    (case df_NoNumber => exact ⟨by first | k_is | kernel_rfl, by first | k_is | kernel_rfl, by first | k_is | kernel_rfl, ⟨by first | k_is | kernel_rfl, by first | k_is | kernel_rfl, by first | k_is | kernel_rfl, by first | k_is | kernel_rfl, by first | k_is | kernel_rfl, by first | k_is | kernel_rfl, by first | k_is | kernel_rfl, by first | k_is | kernel_rfl⟩⟩)
    (case da_NoPairs => k_is)
    (case df_NoPairs => exact ⟨by first | k_is | kernel_rfl, by first | k_is | kernel_rfl, by first | k_is | kernel_rfl, ⟨by first | k_is | kernel_rfl, by first | k_is | kernel_rfl, by first | k_is | kernel_rfl, by first | k_is | kernel_rfl, by first | k_is | kernel_rfl, by first | k_is | kernel_rfl, by first | k_is | kernel_rfl, by first | k_is | kernel_rfl⟩⟩)
    (case da_Round => k_is)
    (case df_Round => exact ⟨by first | k_is | kernel_rfl, by first | k_is | kernel_rfl, by first | k_is | kernel_rfl, ⟨by first | k_is | kernel_rfl, by first | k_is | kernel_rfl, by first | k_is | kernel_rfl, by first | k_is | kernel_rfl, by first | k_is | kernel_rfl, by first | k_is | kernel_rfl, by first | k_is | kernel_rfl, by first | k_is | kernel_rfl⟩⟩)
    (case da_NoRow => k_is)
    (case df_NoRow => exact ⟨by first | k_is | kernel_rfl, by first | k_is | kernel_rfl, by first | k_is | kernel_rfl, ⟨by first | k_is | kernel_rfl, by first | k_is | kernel_rfl, by first | k_is | kernel_rfl, by first | k_is | kernel_rfl, by first | k_is | kernel_rfl, by first | k_is | kernel_rfl, by first | k_is | kernel_rfl, by first | k_is | kernel_rfl⟩⟩)
#print axioms PySem.Challenge.cw_nearorders_k07_whole_nearest_rows_holds
