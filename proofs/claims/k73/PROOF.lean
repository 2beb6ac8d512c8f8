import PyProof.Rows.All
import Wide.All
import OpenK.AllK
import Wide.FinOn
import HandS.ForMost
import HandS.ForExc
import HandS.CallSlots
import HandS.Deep
import HandS.Lambda
import HandS.Wide
import HandS.TupAny
import HandS.TupMul
import HandS.Style
import HandS.IsInst
import HandS.Conv
import HandS.Zip
import HandS.ExcIs
import HandS.EndTab
import HandS.Iter
import PySem.Challenge.RW_nearorders_k73_fences_and_crowns
set_option Elab.async false
set_option linter.all false
set_option maxRecDepth 100000
set_option maxHeartbeats 4000000
/-! part Fw1 -/
namespace Fx
open PySem PySem.Spec PyProof.Rows L2

abbrev PV := PyData
/-! ### a value in a heap -/
def kP : Key → PV
  | .inl i => .int i
  | .inr x => .str x
/-- a tuple that stands still, its object without a dict -/
def TupAt (K : PySem.W.Frag) (H : Hp) (a : Addr) (xs : List V) : Prop :=
  (∃ o : Obj, H a = some (.frz o (.tup xs)) ∧ o.dict = none) ∨
    ∃ (o : Obj) (its : Array Value) (n : Nat), K.lookup a = some o ∧ o.cls = .type "tuple" ∧ o.dict = none ∧ o.data = .seq its n ∧ its.size ≤ sizeLine ∧ Vals xs its.toList
theorem TupAt.sq {K : PySem.W.Frag} {H : Hp} {a : Addr} {xs : List V} : TupAt K H a xs → SqT K H a xs
  | .inl ⟨o, h, _⟩ => .inl (.inr ⟨o, h⟩)
  | .inr ⟨o, its, n, h1, h2, _, h4, h5, h6⟩ => .inr ⟨o, its, n, h1, h2, h4, h5, h6⟩
theorem TupAt.mono {K : PySem.W.Frag} {H H' : Hp} {a : Addr} {xs : List V} (e : Same H H') : TupAt K H a xs → TupAt K H' a xs
  | .inl ⟨o, h, d⟩ => .inl ⟨o, e _ _ h, d⟩
  | .inr h => .inr h
mutual
inductive Rep (K : PySem.W.Frag) (H : Hp) : V → PV → Prop
  | non : Rep K H .non .none
  | bl (b : Bool) : Rep K H (.bl b) (.bool b)
  | int (i : Int) : Rep K H (.int i) (.int i)
  | str (x : Str) : Rep K H (.str x) (.str x)
  | lst {a : Addr} {xs : List V} {ds : List PV} : H a = some (.lst xs) → RepA K H xs ds → Rep K H (.ref a) (.list ds)
  | scr {a : Addr} {xs : List V} {ds : List PV} : SqL K H a xs → RepA K H xs ds → Rep K H (.ref a) (.dict [(.none, .list ds)])
  | tup {a : Addr} {xs : List V} {ds : List PV} : TupAt K H a xs → RepA K H xs ds → Rep K H (.ref a) (.tuple ds)
  | dK {a : Addr} {ks : List (Key × V)} {ds : List (PV × PV)} : H a = some (.dK ks) → RepK K H ks ds → Rep K H (.ref a) (.dict ds)
inductive RepA (K : PySem.W.Frag) (H : Hp) : List V → List PV → Prop
  | nil : RepA K H [] []
  | cons {v : V} {vs : List V} {d : PV} {ds : List PV} : Rep K H v d → RepA K H vs ds → RepA K H (v :: vs) (d :: ds)
inductive RepK (K : PySem.W.Frag) (H : Hp) : List (Key × V) → List (PV × PV) → Prop
  | nil : RepK K H [] []
  | cons {k : Key} {v : V} {vs : List (Key × V)} {d : PV} {ds : List (PV × PV)} : Rep K H v d → RepK K H vs ds → RepK K H ((k, v) :: vs) ((kP k, d) :: ds)
end
theorem same_sqL {K : PySem.W.Frag} {H H' : Hp} {a : Addr} {xs : List V} (e : Same H H') (h : SqL K H a xs) : SqL K H' a xs := e.seq h
theorem same_sqT {K : PySem.W.Frag} {H H' : Hp} {a : Addr} {xs : List V} (e : Same H H') (h : SqT K H a xs) : SqT K H' a xs := by
  rcases h with (h | ⟨o, h⟩) | h
  · exact .inl (.inl (e _ _ h))
  · exact .inl (.inr ⟨o, e _ _ h⟩)
  · exact .inr h
section
variable {K : PySem.W.Frag} {H H' : Hp}
mutual
theorem Rep.mono (e : Same H H') : ∀ {v : V} {d : PV}, Rep K H v d → Rep K H' v d
  | _, _, .non => .non
  | _, _, .bl b => .bl b
  | _, _, .int i => .int i
  | _, _, .str x => .str x
  | _, _, .lst h r => .lst (e _ _ h) (RepA.mono e r)
  | _, _, .scr h r => .scr (same_sqL e h) (RepA.mono e r)
  | _, _, .tup h r => .tup (h.mono e) (RepA.mono e r)
  | _, _, .dK h r => .dK (e _ _ h) (RepK.mono e r)
theorem RepA.mono (e : Same H H') : ∀ {v : List V} {d : List PV}, RepA K H v d → RepA K H' v d
  | _, _, .nil => .nil
  | _, _, .cons h r => .cons (Rep.mono e h) (RepA.mono e r)
theorem RepK.mono (e : Same H H') : ∀ {v : List (Key × V)} {d : List (PV × PV)}, RepK K H v d → RepK K H' v d
  | _, _, .nil => .nil
  | _, _, .cons h r => .cons (Rep.mono e h) (RepK.mono e r)
end
theorem RepK.key : ∀ {v : List (Key × V)} {d : List (PV × PV)}, RepK K H v d → ∀ p ∈ d, ∃ k, p.1 = kP k
  | _, _, .nil, p, h => nomatch h
  | _, _, .cons (k := k) _ r, p, h => by
    rcases List.mem_cons.mp h with e | h
    · exact ⟨k, by rw [e]⟩
    · exact RepK.key r p h
theorem RepA.length : ∀ {v : List V} {d : List PV}, RepA K H v d → v.length = d.length
  | _, _, .nil => rfl
  | _, _, .cons _ r => by rw [List.length_cons, List.length_cons, RepA.length r]
theorem RepA.append : ∀ {v w : List V} {d e : List PV}, RepA K H v d → RepA K H w e → RepA K H (v ++ w) (d ++ e)
  | _, _, _, _, .nil, q => q
  | _, _, _, _, .cons h r, q => .cons h (RepA.append r q)
theorem RepA.get : ∀ {v : List V} {d : List PV} {i : Nat} {p : PV}, RepA K H v d → d[i]? = some p → ∃ x, v[i]? = some x ∧ Rep K H x p
  | _, _, _, _, .nil, e => by simp at e
  | _, _, 0, _, .cons h r, e => by simp at e; subst e; exact ⟨_, rfl, h⟩
  | _, _, i + 1, _, .cons h r, e => by
    obtain ⟨x, e1, e2⟩ := RepA.get (i := i) r (by simpa using e)
    exact ⟨x, by simpa using e1, e2⟩
theorem RepA.get' : ∀ {v : List V} {d : List PV} {i : Nat} {x : V}, RepA K H v d → v[i]? = some x → ∃ p, d[i]? = some p ∧ Rep K H x p
  | _, _, _, _, .nil, e => by simp at e
  | _, _, 0, _, .cons h r, e => by simp at e; subst e; exact ⟨_, rfl, h⟩
  | _, _, i + 1, _, .cons h r, e => by
    obtain ⟨x, e1, e2⟩ := RepA.get' (i := i) r (by simpa using e)
    exact ⟨x, by simpa using e1, e2⟩
theorem RepA.take : ∀ {v : List V} {d : List PV} (n : Nat), RepA K H v d → RepA K H (v.take n) (d.take n)
  | _, _, 0, _ => .nil
  | _, _, _ + 1, .nil => .nil
  | _, _, n + 1, .cons h r => .cons h (RepA.take n r)
theorem RepA.drop : ∀ {v : List V} {d : List PV} (n : Nat), RepA K H v d → RepA K H (v.drop n) (d.drop n)
  | _, _, 0, r => r
  | _, _, _ + 1, .nil => .nil
  | _, _, n + 1, .cons h r => RepA.drop n r
theorem RepA.set {x : V} {p : PV} (q : Rep K H x p) : ∀ {v : List V} {d : List PV} (n : Nat), RepA K H v d → RepA K H (v.set n x) (d.set n p)
  | _, _, _, .nil => .nil
  | _, _, 0, .cons h r => .cons q r
  | _, _, n + 1, .cons h r => .cons h (RepA.set q n r)
theorem RepA.reverse : ∀ {v : List V} {d : List PV}, RepA K H v d → RepA K H v.reverse d.reverse
  | _, _, .nil => .nil
  | _, _, .cons h r => by
    rw [List.reverse_cons, List.reverse_cons]
    exact (RepA.reverse r).append (.cons h .nil)
end

/-! ### slots -/
/-- what a slot holds: a value shared and never changed from now on; an owned object (list, dict) that only the slot leads to;
the frame's lambda of that number; an owned list of such lambdas -/
inductive Sv where
  | s (v : PV) | o (v : PV) | c (i : Nat) | cl (is : List Nat)
abbrev En := List (Option Sv)
inductive OwnAt (K : PySem.W.Frag) (F H : Hp) (a : Addr) : PV → Prop
  | lst {vs : List V} {ds : List PV} : H a = some (.lst vs) → RepA K F vs ds → OwnAt K F H a (.list ds)
  | dK {ks : List (Key × V)} {ds : List (PV × PV)} : H a = some (.dK ks) → RepK K F ks ds → OwnAt K F H a (.dict ds)
theorem OwnAt.mono {K : PySem.W.Frag} {F F' H H' : Hp} {a : Addr} {p : PV} (e : Same F F') (h : H' a = H a) : OwnAt K F H a p → OwnAt K F' H' a p
  | .lst q r => .lst (h.trans q) (r.mono e)
  | .dK q r => .dK (h.trans q) (r.mono e)
theorem OwnAt.there {K : PySem.W.Frag} {F H : Hp} {a : Addr} {p : PV} : OwnAt K F H a p → ∃ o, H a = some o
  | .lst q _ => ⟨_, q⟩
  | .dK q _ => ⟨_, q⟩
theorem OwnAt.plain {K : PySem.W.Frag} {F H : Hp} {a : Addr} {p : PV} : OwnAt K F H a p → ∃ o, H a = some o ∧ ∀ ps, o ≠ .tbl ps
  | .lst q _ => ⟨_, q, fun _ z => nomatch z⟩
  | .dK q _ => ⟨_, q, fun _ z => nomatch z⟩
theorem OwnAt.notExt {K : PySem.W.Frag} {F H : Hp} {a : Addr} {p : PV} (q : OwnAt K F H a p) (φ : Heap → Prop) : H a ≠ some (.ext φ) := fun h => by
  cases q with
  | lst z _ => rw [h] at z; cases z
  | dK z _ => rw [h] at z; cases z
theorem OwnAt.notTup {K : PySem.W.Frag} {F H : Hp} {a : Addr} {p : PV} (q : OwnAt K F H a p) (xs : List V) : H a ≠ some (.tup xs) := fun h => by
  cases q with
  | lst z _ => rw [h] at z; cases z
  | dK z _ => rw [h] at z; cases z
theorem OwnAt.rep {K : PySem.W.Frag} {F H : Hp} {a : Addr} {p : PV} (e : Same F H) : OwnAt K F H a p → Rep K H (.ref a) p
  | .lst q r => .lst q (r.mono e)
  | .dK q r => .dK q (r.mono e)
theorem same_put {F : Hp} {a : Addr} (h : F a = none) (o : HO) : Same F (upd F a o) := fun b u q => by rw [upd_ne (ne_of_none q h)]; exact q
/-- frozen from now on -/
theorem OwnAt.freeze {K : PySem.W.Frag} {F H : Hp} {a : Addr} {p : PV} (n : F a = none) : OwnAt K F H a p → ∃ o, H a = some o ∧ Rep K (upd F a o) (.ref a) p ∧ ∀ ps, o ≠ .tbl ps
  | .lst q r => ⟨_, q, .lst upd_same (r.mono (same_put n _)), fun _ z => nomatch z⟩
  | .dK q r => ⟨_, q, .dK upd_same (r.mono (same_put n _)), fun _ z => nomatch z⟩

/-- read for the moment: shared, or an owned object (its items are shared) -/
inductive RepR (K : PySem.W.Frag) (F H : Hp) : V → PV → Prop
  | s {v : V} {p : PV} : Rep K F v p → RepR K F H v p
  | o {a : Addr} {p : PV} : OwnAt K F H a p → RepR K F H (.ref a) p
theorem RepR.rep {K : PySem.W.Frag} {F H : Hp} {v : V} {p : PV} (e : Same F H) : RepR K F H v p → Rep K H v p
  | .s r => r.mono e
  | .o r => r.rep e
theorem RepR.list {K : PySem.W.Frag} {F H : Hp} {v : V} {ds : List PV} (e : Same F H) (h : RepR K F H v (.list ds)) : ∃ a vs, v = .ref a ∧ H a = some (.lst vs) ∧ RepA K F vs ds := by
  cases h with
  | s r => cases r with | lst q t => exact ⟨_, _, rfl, e _ _ q, t⟩
  | o r => cases r with | lst q t => exact ⟨_, _, rfl, q, t⟩
theorem RepR.tuple {K : PySem.W.Frag} {F H : Hp} {v : V} {ds : List PV} (e : Same F H) (h : RepR K F H v (.tuple ds)) : ∃ a vs, v = .ref a ∧ TupAt K H a vs ∧ RepA K F vs ds := by
  cases h with
  | s r => cases r with | tup q t => exact ⟨_, _, rfl, q.mono e, t⟩
  | o r => cases r
theorem RepR.intE {K : PySem.W.Frag} {F H : Hp} {v : V} {i : Int} (h : RepR K F H v (.int i)) : v = .int i := by
  cases h with
  | s r => cases r with | int => rfl
  | o r => cases r
theorem RepR.strE {K : PySem.W.Frag} {F H : Hp} {v : V} {i : Str} (h : RepR K F H v (.str i)) : v = .str i := by
  cases h with
  | s r => cases r with | str => rfl
  | o r => cases r
theorem RepR.boolE {K : PySem.W.Frag} {F H : Hp} {v : V} {i : Bool} (h : RepR K F H v (.bool i)) : v = .bl i := by
  cases h with
  | s r => cases r with | bl => rfl
  | o r => cases r
theorem RepR.noneE {K : PySem.W.Frag} {F H : Hp} {v : V} (h : RepR K F H v .none) : v = .non := by
  cases h with
  | s r => cases r with | non => rfl
  | o r => cases r
inductive RepRA (K : PySem.W.Frag) (F H : Hp) : List V → List PV → Prop
  | nil : RepRA K F H [] []
  | cons {v : V} {vs : List V} {d : PV} {ds : List PV} : RepR K F H v d → RepRA K F H vs ds → RepRA K F H (v :: vs) (d :: ds)
/-- kinds of a value: shared, read for the moment, owned by nobody yet -/
inductive Kd where
  | sh | rd | fr
  deriving DecidableEq
/-- what a def's walk keeps in mind: the addresses of the parameters that are owned by the caller, the classes' values, the frame's lambdas, the wish of exceptions, the kind of what is told -/
structure Cf where
  ioS : List Nat
  ioA : List Addr
  xc : Nat → Value
  clo : Nat → Addr → HO
  W : WX
  kr : Kd
  T : List (Addr × Str)
abbrev Cf.io (C : Cf) : List (Nat × Addr) := C.ioS.zip C.ioA
abbrev Cf.nox (C : Cf) : Cf := { C with W := fun _ _ _ _ => False }
abbrev Own := Nat → Option Addr

inductive SlotR (K : PySem.W.Frag) (C : Cf) (F : Hp) (oa : Option Addr) (H : Hp) : V → Sv → Prop
  | s {v : V} {p : PV} : Rep K F v p → SlotR K C F oa H v (.s p)
  | o {a : Addr} {p : PV} : oa = some a → OwnAt K F H a p → SlotR K C F oa H (.ref a) (.o p)
  | c {f : Addr} {j : Nat} : F f = some (C.clo j f) → SlotR K C F oa H (.ref f) (.c j)
  | cl {a : Addr} {vs : List V} {js : List Nat} : oa = some a → H a = some (.lst vs) → Paired (fun v j => ∃ f, v = V.ref f ∧ F f = some (C.clo j f)) vs js → SlotR K C F oa H (.ref a) (.cl js)
theorem paired_map {α β : Type} {R S : α → β → Prop} (h : ∀ a b, R a b → S a b) : ∀ {xs : List α} {ys : List β}, Paired R xs ys → Paired S xs ys
  | _, _, .nil => .nil
  | _, _, .cons a b => .cons (h _ _ a) (paired_map h b)
theorem SlotR.mono {K : PySem.W.Frag} {C : Cf} {F F' H H' : Hp} {oa : Option Addr} {v : V} {p : Sv} (e : Same F F') (h : ∀ a, oa = some a → H' a = H a) : SlotR K C F oa H v p → SlotR K C F' oa H' v p
  | .s r => .s (r.mono e)
  | .o q r => .o q (r.mono e (h _ q))
  | .c q => .c (e _ _ q)
  | .cl q r t => .cl q ((h _ q).trans r) (paired_map (fun _ _ ⟨f, a, b⟩ => ⟨f, a, e _ _ b⟩) t)

/-- no table is shared -/
def NT (F : Hp) : Prop := ∀ a ps, F a ≠ some (.tbl ps)
theorem NT.put {F : Hp} {a : Addr} {o : HO} (n : NT F) (h : ∀ ps, o ≠ .tbl ps) : NT (upd F a o) := fun b ps z => by
  by_cases q : b = a
  · subst q; rw [upd_same] at z; exact h ps (Option.some.inj z)
  · rw [upd_ne q] at z; exact n b ps z
/-- an object stays; of a table nothing is said -/
def Kept (o : HO) (u : Option HO) : Prop := u = some o ∨ ∃ ps, o = .tbl ps
/-- nothing is known of this place (but a table may stand there) -/
def Fre (H : Hp) (a : Addr) : Prop := ∀ o, H a = some o → ∃ ps, o = .tbl ps
theorem Fre.none {H : Hp} {a : Addr} (h : H a = none) : Fre H a := fun o z => by rw [h] at z; cases z
theorem Fre.no {H : Hp} {a : Addr} {o : HO} (f : Fre H a) (h : H a = some o) (n : ∀ ps, o ≠ .tbl ps) : False := (f o h).elim n
structure Rel (K : PySem.W.Frag) (C : Cf) (F : Hp) (O : Own) (σ : L2.St) (H : Hp) (ρ : En) : Prop where
  sub : Same F H
  len : ρ.length = σ.length
  sl : ∀ i p, ρ[i]? = some (some p) → ∃ v, σ[i]? = some (some v) ∧ SlotR K C F (O i) H v p
  inj : ∀ i j a, O i = some a → O j = some a → i = j
  out : ∀ i a, O i = some a → F a = none ∧ ∃ o, H a = some o ∧ ∀ ps, o ≠ .tbl ps
  io : ∀ p ∈ C.io, O p.1 = some p.2
  tabs : LamX.Tabs C.T H
  nt : NT F
theorem Rel.nox {K : PySem.W.Frag} {C : Cf} {F : Hp} {O : Own} {σ : L2.St} {H : Hp} {ρ : En} (r : Rel K C F O σ H ρ) : Rel K C.nox F O σ H ρ :=
  ⟨r.sub, r.len, fun i p h => let ⟨v, a, b⟩ := r.sl i p h; ⟨v, a, match b with | .s x => .s x | .o x y => .o x y | .c x => .c x | .cl x y z => .cl x y z⟩, r.inj, r.out, r.io, r.tabs, r.nt⟩
theorem Rel.unnox {K : PySem.W.Frag} {C : Cf} {F : Hp} {O : Own} {σ : L2.St} {H : Hp} {ρ : En} (r : Rel K C.nox F O σ H ρ) : Rel K C F O σ H ρ :=
  ⟨r.sub, r.len, fun i p h => let ⟨v, a, b⟩ := r.sl i p h; ⟨v, a, match b with | .s x => .s x | .o x y => .o x y | .c x => .c x | .cl x y z => .cl x y z⟩, r.inj, r.out, r.io, r.tabs, r.nt⟩

/-- what a piece of a frame's code may have done -/
structure Step (F H : Hp) (O : Own) (F' H' : Hp) (O' : Own) : Prop where
  ext : Same F F'
  new : ∀ a, F' a ≠ none → F a ≠ none ∨ (Fre H a ∨ ∃ i, O i = some a)
  frm : ∀ a o, H a = some o → (∀ i, O i ≠ some a) → Kept o (H' a)
  own : ∀ i a, O' i = some a → (∃ j, O j = some a) ∨ Fre H a
theorem Kept.same {o : HO} {u : Option HO} (n : ∀ ps, o ≠ .tbl ps) : Kept o u → u = some o
  | .inl h => h
  | .inr ⟨ps, h⟩ => absurd h (n ps)
theorem Fre.back {H H1 : Hp} {a : Addr} (f : Fre H1 a) (k : ∀ o, H a = some o → Kept o (H1 a)) : Fre H a := fun o h => by
  rcases k o h with z | z
  · exact f o z
  · exact z
theorem Step.refl {F H : Hp} {O : Own} : Step F H O F H O := ⟨.refl _, fun _ h => .inl h, fun _ _ h _ => .inl h, fun i a h => .inl ⟨i, h⟩⟩
theorem Step.key {F H F1 H1 : Hp} {O O1 : Own} (a : Step F H O F1 H1 O1) (x : Addr) (h : Fre H1 x ∨ ∃ i, O1 i = some x) : Fre H x ∨ ∃ i, O i = some x := by
  rcases h with h | ⟨i, h⟩
  · by_cases q : ∃ i, O i = some x
    · exact .inr q
    · exact .inl (h.back fun o e => a.frm x o e fun i z => q ⟨i, z⟩)
  · rcases a.own i x h with ⟨j, z⟩ | z
    · exact .inr ⟨j, z⟩
    · exact .inl z
theorem Step.trans {F H F1 H1 F2 H2 : Hp} {O O1 O2 : Own} (a : Step F H O F1 H1 O1) (b : Step F1 H1 O1 F2 H2 O2) : Step F H O F2 H2 O2 := by
  refine ⟨a.ext.trans b.ext, fun x h => ?_, fun x o h n => ?_, fun i x h => ?_⟩
  · rcases b.new x h with z | z
    · exact a.new x z
    · exact .inr (a.key x z)
  · by_cases ht : ∃ ps, o = .tbl ps
    · exact .inr ht
    · have k := (a.frm x o h n).same fun ps z => ht ⟨ps, z⟩
      refine b.frm x o k fun i z => ?_
      rcases a.own i x z with ⟨j, q⟩ | q
      · exact n j q
      · exact q.no h fun ps z => ht ⟨ps, z⟩
  · rcases b.own i x h with ⟨j, z⟩ | z
    · exact (a.key x (.inr ⟨j, z⟩)).symm
    · exact (a.key x (.inl z)).symm
/-- an address nobody owned at the start -/
def NewAt (H : Hp) (O : Own) (a : Addr) : Prop := Fre H a ∨ ∃ i, O i = some a
theorem NewAt.back {F H F1 H1 : Hp} {O O1 : Own} {x : Addr} (a : Step F H O F1 H1 O1) (h : NewAt H1 O1 x) : NewAt H O x := a.key x h
structure Fresh (K : PySem.W.Frag) (H : Hp) (O : Own) (F' : Hp) (O' : Own) (H' : Hp) (a : Addr) (p : PV) : Prop where
  new : NewAt H O a
  nF : F' a = none
  nO : ∀ i, O' i ≠ some a
  at_ : OwnAt K F' H' a p
def ValK (K : PySem.W.Frag) (k : Kd) (H : Hp) (O : Own) (F' : Hp) (O' : Own) (H' : Hp) (x : V) (p : PV) : Prop :=
  match k with
  | .sh => Rep K F' x p
  | .rd => RepR K F' H' x p
  | .fr => ∃ a, x = .ref a ∧ Fresh K H O F' O' H' a p
theorem Fresh.step {K : PySem.W.Frag} {H F1 H1 F2 H2 : Hp} {O O1 O2 : Own} {a : Addr} {p : PV} (f : Fresh K H O F1 O1 H1 a p) (b : Step F1 H1 O1 F2 H2 O2) : Fresh K H O F2 O2 H2 a p := by
  obtain ⟨o, ho, hnt⟩ := f.at_.plain
  have e := (b.frm a o ho f.nO).same hnt
  refine ⟨f.new, ?_, fun i z => ?_, f.at_.mono b.ext (e.trans ho.symm)⟩
  · cases q : F2 a with
    | none => rfl
    | some u =>
      rcases b.new a (by rw [q]; exact fun z => nomatch z) with z | (z | ⟨i, z⟩)
      · exact absurd f.nF z
      · exact (z.no ho hnt).elim
      · exact absurd z (f.nO i)
  · rcases b.own i a z with ⟨j, q⟩ | q
    · exact f.nO j q
    · exact q.no ho hnt
theorem Fresh.from {K : PySem.W.Frag} {F H F1 H1 F2 H2 : Hp} {O O1 O2 : Own} {a : Addr} {p : PV} (s : Step F H O F1 H1 O1) (f : Fresh K H1 O1 F2 O2 H2 a p) : Fresh K H O F2 O2 H2 a p :=
  ⟨f.new.back s, f.nF, f.nO, f.at_⟩
/-- what is fresh is shared from now on -/
theorem Fresh.share {K : PySem.W.Frag} {C : Cf} {F H F1 H1 : Hp} {O O1 : Own} {σ : L2.St} {ρ : En} {a : Addr} {p : PV} (s : Step F H O F1 H1 O1) (f : Fresh K H O F1 O1 H1 a p) (r : Rel K C F1 O1 σ H1 ρ) :
    ∃ F2, Step F H O F2 H1 O1 ∧ Rel K C F2 O1 σ H1 ρ ∧ Rep K F2 (.ref a) p ∧ Same F1 F2 := by
  obtain ⟨o, ho, hr, hnt⟩ := f.at_.freeze f.nF
  have e : Same F1 (upd F1 a o) := same_put f.nF o
  refine ⟨upd F1 a o, ⟨s.ext.trans e, fun x h => ?_, s.frm, s.own⟩, ⟨fun x u q => ?_, r.len, fun i p' h => ?_, r.inj, fun i x h => ?_, r.io, r.tabs, r.nt.put hnt⟩, hr, e⟩
  · by_cases q : x = a
    · subst q; exact .inr f.new
    · rw [upd_ne q] at h; exact s.new x h
  · by_cases z : x = a
    · subst z; rw [upd_same] at q; cases q; exact ho
    · rw [upd_ne z] at q; exact r.sub x u q
  · obtain ⟨v, h1, h2⟩ := r.sl i p' h
    exact ⟨v, h1, h2.mono e fun _ _ => rfl⟩
  · have z : x ≠ a := fun z => f.nO i (by rw [← z]; exact h)
    rw [upd_ne z]
    exact r.out i x h

def ArgK (K : PySem.W.Frag) (k : Kd) (F H : Hp) (xs : List V) (vs : List PV) : Prop := match k with
  | .sh => RepA K F xs vs
  | _ => RepRA K F H xs vs
/-! ### results -/
inductive RE (α : Type) where
  | ok (a : α) (ρ : En) | exc (c : Nat) (ρ : En) | bad
@[simp] def RE.bind {α β : Type} (r : RE α) (f : α → En → RE β) : RE β := match r with
  | .ok a ρ => f a ρ
  | .exc c ρ => .exc c ρ
  | .bad => .bad
inductive SR where
  | nx (ρ : En) | ret (v : PV) (ρ : En) | bk (ρ : En) | ct (ρ : En) | exc (c : Nat) (ρ : En) | bad
inductive FR where
  | ret (v : PV) (outs : List PV) | exc (c : Nat) (outs : List PV) | bad

section
variable (K : PySem.W.Frag) (C : Cf)
def ExcP (F H : Hp) (O : Own) (σ : L2.St) (c : Nat) (ρ' : En) : Prop := ∀ F' O' H', Step F H O F' H' O' → Rel K C F' O' σ H' ρ' → C.W (C.xc c) none σ H'
def PostE (k : Kd) (F H : Hp) (O : Own) (σ : L2.St) (Q : VK) : RE PV → Prop
  | .ok v ρ' => ∀ F' O' H' x, Step F H O F' H' O' → Rel K C F' O' σ H' ρ' → ValK K k H O F' O' H' x v → Q x H'
  | .exc c ρ' => ExcP K C F H O σ c ρ'
  | .bad => False
def tE (k : Kd) (f : En → RE PV) : TE := fun σ H Q => ∃ F O ρ, Rel K C F O σ H ρ ∧ PostE K C k F H O σ Q (f ρ)
def PostB (F H : Hp) (O : Own) (σ : L2.St) (Q : Bool → Hp → Prop) : RE Bool → Prop
  | .ok b ρ' => ∀ F' O' H', Step F H O F' H' O' → Rel K C F' O' σ H' ρ' → Q b H'
  | .exc c ρ' => ExcP K C F H O σ c ρ'
  | .bad => False
def tB' (f : En → RE Bool) : TT := fun σ H Q => ∃ F O ρ, Rel K C F O σ H ρ ∧ PostB K C F H O σ Q (f ρ)
def PostA (k : Kd) (F H : Hp) (O : Own) (σ : L2.St) (Q : List V → Hp → Prop) : RE (List PV) → Prop
  | .ok vs ρ' => ∀ F' O' H' xs, Step F H O F' H' O' → Rel K C F' O' σ H' ρ' → ArgK K k F' H' xs vs → Q xs H'
  | .exc c ρ' => ExcP K C F H O σ c ρ'
  | .bad => False
def tA (k : Kd) (f : En → RE (List PV)) : TA := fun σ H Q => ∃ F O ρ, Rel K C F O σ H ρ ∧ PostA K C k F H O σ Q (f ρ)
def PostS (F H : Hp) (O : Own) (D : Ends) (σ : L2.St) : SR → Prop
  | .nx ρ' => ∀ F' O' σ' H', Step F H O F' H' O' → Rel K C F' O' σ' H' ρ' → D.nx σ' H'
  | .bk ρ' => ∀ F' O' σ' H', Step F H O F' H' O' → Rel K C F' O' σ' H' ρ' → D.bk σ' H'
  | .ct ρ' => ∀ F' O' σ' H', Step F H O F' H' O' → Rel K C F' O' σ' H' ρ' → D.ct σ' H'
  | .ret v ρ' => ∀ F' O' σ' H' x, Step F H O F' H' O' → Rel K C F' O' σ' H' ρ' → ValK K C.kr H O F' O' H' x v → D.rt x H'
  | .exc c ρ' => ∀ F' O' σ' H', Step F H O F' H' O' → Rel K C F' O' σ' H' ρ' → C.W (C.xc c) none σ' H'
  | .bad => False
def tS (g : En → SR) : TS := fun D σ H => ∃ F O ρ, Rel K C F O σ H ρ ∧ PostS K C F H O D σ (g ρ)
end
def EV (X : Cx) (C : Cf) (k : Kd) (e : Expr) (f : En → RE PV) : Prop := PE X e (tE X.K C k f)
def TV (X : Cx) (C : Cf) (e : Expr) (f : En → RE Bool) : Prop := PT X e (tB' X.K C f)
def WV (X : Cx) (C : Cf) (e : Expr) (f : En → RE Bool) : Prop := PW X e (tB' X.K C f)
def AV (X : Cx) (C : Cf) (k : Kd) (es : List Expr) (f : En → RE (List PV)) : Prop := PA X es (tA X.K C k f)
def SV (X : Cx) (C : Cf) (st : Stmt) (g : En → SR) : Prop := PS X st (tS X.K C g)
def SVs (X : Cx) (C : Cf) (st : List Stmt) (g : En → SR) : Prop := PSs X st (tS X.K C g)

theorem PE.imp {X : Cx} {e : Expr} {t t' : TE} (h : PE X e t) (w : ∀ σ H Q, t' σ H Q → t σ H Q) : PE X e t' := ⟨fun pins s σ H Q I q => h.run pins s σ H Q I (w _ _ _ q)⟩
theorem PT.imp {X : Cx} {e : Expr} {t t' : TT} (h : PT X e t) (w : ∀ σ H Q, t' σ H Q → t σ H Q) : PT X e t' := ⟨fun pins s σ H Q I q => h.run pins s σ H Q I (w _ _ _ q)⟩
theorem PW.imp {X : Cx} {e : Expr} {t t' : TT} (h : PW X e t) (w : ∀ σ H Q, t' σ H Q → t σ H Q) : PW X e t' := ⟨fun wh pins s σ H Q I q => h.run wh pins s σ H Q I (w _ _ _ q)⟩
theorem PA.imp {X : Cx} {e : List Expr} {t t' : TA} (h : PA X e t) (w : ∀ σ H Q, t' σ H Q → t σ H Q) : PA X e t' := ⟨fun pos pins s σ H Q I q => h.run pos pins s σ H Q I (w _ _ _ q)⟩
theorem PS.imp {X : Cx} {e : Stmt} {t t' : TS} (h : PS X e t) (w : ∀ D σ H, t' D σ H → t D σ H) : PS X e t' := ⟨fun pins s σ H D I q => h.run pins s σ H D I (w _ _ _ q)⟩
theorem PSs.imp {X : Cx} {e : List Stmt} {t t' : TS} (h : PSs X e t) (w : ∀ D σ H, t' D σ H → t D σ H) : PSs X e t' := ⟨fun pins s σ H D I q => h.run pins s σ H D I (w _ _ _ q)⟩

/-! ### slots read, frozen, given away -/
@[simp] def En.at (ρ : En) (i : Nat) : Option Sv := match ρ[i]? with | some (some p) => some p | _ => none
theorem En.at_some {ρ : En} {i : Nat} {p : Sv} (h : ρ.at i = some p) : ρ[i]? = some (some p) := by
  unfold En.at at h
  split at h
  · rename_i q e; cases h; exact e
  · cases h
section
variable {K : PySem.W.Frag} {C : Cf} {F H : Hp} {O : Own} {σ : L2.St} {ρ : En} {i : Nat}
theorem Rel.get (r : Rel K C F O σ H ρ) {p : Sv} (h : ρ.at i = some p) : ∃ v, σ[i]? = some (some v) ∧ SlotR K C F (O i) H v p := r.sl i p (En.at_some h)
def freeO (O : Own) (i : Nat) : Own := fun j => if j = i then none else O j
theorem freeO_le {O : Own} {i j : Nat} {a : Addr} (h : freeO O i j = some a) : O j = some a ∧ j ≠ i := by
  unfold freeO at h
  split at h
  · cases h
  · exact ⟨h, by assumption⟩
theorem getElem_set {α : Type} {l : List α} {i j : Nat} {x y : α} (h : (l.set i x)[j]? = some y) : (j = i ∧ y = x ∧ i < l.length) ∨ (j ≠ i ∧ l[j]? = some y) := by
  by_cases q : j = i
  · subst q
    by_cases z : j < l.length
    · rw [List.getElem?_set_self z] at h; exact .inl ⟨rfl, (Option.some.inj h).symm, z⟩
    · rw [List.getElem?_eq_none (by simpa using Nat.le_of_not_lt z)] at h; cases h
  · rw [List.getElem?_set_ne (Ne.symm q)] at h
    exact .inr ⟨q, h⟩
/-- the slot's own object is given away -/
theorem Rel.move (r : Rel K C F O σ H ρ) (hi : i ∉ C.ioS) : Rel K C F (freeO O i) σ H (ρ.set i none) := by
  refine ⟨r.sub, by rw [List.length_set]; exact r.len, fun j p h => ?_, fun j k a h1 h2 => r.inj j k a (freeO_le h1).1 (freeO_le h2).1, fun j a h => r.out j a (freeO_le h).1, fun p hp => ?_, r.tabs, r.nt⟩
  · rcases getElem_set h with ⟨_, z, _⟩ | ⟨n, h⟩
    · cases z
    · obtain ⟨v, h1, h2⟩ := r.sl j p h
      refine ⟨v, h1, ?_⟩
      unfold freeO; rw [if_neg n]; exact h2
  · unfold freeO
    rw [if_neg fun z => hi (by rw [← z]; exact (List.of_mem_zip (show (p.1, p.2) ∈ C.ioS.zip C.ioA from hp)).1)]
    exact r.io p hp
theorem step_free : Step F H O F H (freeO O i) := ⟨.refl _, fun _ h => .inl h, fun _ _ h _ => .inl h, fun j a h => .inl ⟨j, (freeO_le h).1⟩⟩
/-- .. is frozen, and stays in its slot -/
theorem Rel.freeze (r : Rel K C F O σ H ρ) (hi : i ∉ C.ioS) {a : Addr} {p : PV} (ha : O i = some a) (q : OwnAt K F H a p) (hv : σ[i]? = some (some (.ref a))) :
    ∃ F', Step F H O F' H (freeO O i) ∧ Rel K C F' (freeO O i) σ H (ρ.set i (some (.s p))) ∧ Rep K F' (.ref a) p := by
  obtain ⟨nF, _⟩ := r.out i a ha
  obtain ⟨o, ho, hr, hnt⟩ := q.freeze nF
  have e : Same F (upd F a o) := same_put nF o
  have ne : ∀ j b, freeO O i j = some b → b ≠ a := fun j b h z => (freeO_le h).2 (r.inj j i a (by rw [← z]; exact (freeO_le h).1) ha)
  refine ⟨upd F a o, ⟨e, fun x h => ?_, fun _ _ h _ => .inl h, fun j b h => .inl ⟨j, (freeO_le h).1⟩⟩, ⟨fun x u h => ?_, by rw [List.length_set]; exact r.len, fun j p' h => ?_, fun j k b h1 h2 => r.inj j k b (freeO_le h1).1 (freeO_le h2).1, fun j b h => ?_, fun p' hp => ?_, r.tabs, r.nt.put hnt⟩, hr⟩
  · by_cases z : x = a
    · subst z; exact .inr (.inr ⟨i, ha⟩)
    · rw [upd_ne z] at h; exact .inl h
  · by_cases z : x = a
    · subst z; rw [upd_same] at h; cases h; exact ho
    · rw [upd_ne z] at h; exact r.sub x u h
  · rcases getElem_set h with ⟨z, z2, _⟩ | ⟨n, h⟩
    · subst z; cases z2; exact ⟨_, hv, .s hr⟩
    · obtain ⟨v, h1, h2⟩ := r.sl j p' h
      refine ⟨v, h1, ?_⟩
      unfold freeO; rw [if_neg n]; exact h2.mono e fun _ _ => rfl
  · rw [upd_ne (ne j b h)]; exact r.out j b (freeO_le h).1
  · unfold freeO
    rw [if_neg fun z => hi (by rw [← z]; exact (List.of_mem_zip (show (p'.1, p'.2) ∈ C.ioS.zip C.ioA from hp)).1)]
    exact r.io p' hp
theorem SlotR.read {v : V} {p : Sv} {q : PV} (s : SlotR K C F (O i) H v p) (e : p = .s q ∨ p = .o q) : RepR K F H v q := by
  rcases e with rfl | rfl
  · cases s with | s r => exact .s r
  · cases s with | o _ r => exact .o r
end

section
variable {X : Cx} {C : Cf} {e : Expr} {i : Nat} {x : Str} {pos : Pos}
@[simp] def eVar (i : Nat) (ρ : En) : RE PV := match ρ.at i with | some (.s v) => .ok v ρ | _ => .bad
@[simp] def eRd (i : Nat) (ρ : En) : RE PV := match ρ.at i with | some (.s v) => .ok v ρ | some (.o v) => .ok v ρ | _ => .bad
@[simp] def eShr (i : Nat) (ρ : En) : RE PV := match ρ.at i with | some (.s v) => .ok v ρ | some (.o v) => .ok v (ρ.set i (some (.s v))) | _ => .bad
@[simp] def eMv (i : Nat) (ρ : En) : RE PV := match ρ.at i with | some (.o v) => .ok v (ρ.set i none) | _ => .bad
theorem ev_var (h : PE X (.Name x pos) (tVar i)) : EV X C .sh (.Name x pos) (eVar i) := by
  refine PE.imp h fun σ H Q ⟨F, O, ρ, r, q⟩ => ?_
  unfold eVar at q
  split at q
  · rename_i v e
    obtain ⟨w, h1, h2⟩ := r.get e
    refine ⟨w, h1, q F O H w .refl r ?_⟩
    cases h2 with | s z => exact z
  · exact q.elim
theorem ev_rd (h : PE X (.Name x pos) (tVar i)) : EV X C .rd (.Name x pos) (eRd i) := by
  refine PE.imp h fun σ H Q ⟨F, O, ρ, r, q⟩ => ?_
  unfold eRd at q
  split at q
  · rename_i v e
    obtain ⟨w, h1, h2⟩ := r.get e
    exact ⟨w, h1, q F O H w .refl r (h2.read (.inl rfl))⟩
  · rename_i v e
    obtain ⟨w, h1, h2⟩ := r.get e
    exact ⟨w, h1, q F O H w .refl r (h2.read (.inr rfl))⟩
  · exact q.elim
theorem ev_shr (h : PE X (.Name x pos) (tVar i)) (hi : i ∉ C.ioS) : EV X C .sh (.Name x pos) (eShr i) := by
  refine PE.imp h fun σ H Q ⟨F, O, ρ, r, q⟩ => ?_
  unfold eShr at q
  split at q
  · rename_i v e
    obtain ⟨w, h1, h2⟩ := r.get e
    refine ⟨w, h1, q F O H w .refl r ?_⟩
    cases h2 with | s z => exact z
  · rename_i v e
    obtain ⟨w, h1, h2⟩ := r.get e
    cases h2 with
    | o z1 z2 =>
      obtain ⟨F', s1, r1, p1⟩ := r.freeze hi z1 z2 h1
      exact ⟨_, h1, q F' _ H _ s1 r1 p1⟩
  · exact q.elim
theorem ev_mv (h : PE X (.Name x pos) (tVar i)) (hi : i ∉ C.ioS) : EV X C .fr (.Name x pos) (eMv i) := by
  refine PE.imp h fun σ H Q ⟨F, O, ρ, r, q⟩ => ?_
  unfold eMv at q
  split at q
  · rename_i v e
    obtain ⟨w, h1, h2⟩ := r.get e
    cases h2 with
    | o z1 z2 =>
      refine ⟨_, h1, q F _ H _ (step_free (i := i)) (r.move hi) ⟨_, rfl, .inr ⟨i, z1⟩, (r.out i _ z1).1, fun j z => (freeO_le z).2 (r.inj j i _ (freeO_le z).1 z1), z2⟩⟩
  · exact q.elim
/-- kinds: what is fresh may be shared, what is shared or fresh may be read -/
theorem ev_fs {f : En → RE PV} (h : EV X C .fr e f) : EV X C .sh e f := by
  refine PE.imp h fun σ H Q ⟨F, O, ρ, r, q⟩ => ⟨F, O, ρ, r, ?_⟩
  cases hf : f ρ with
  | ok v ρ' =>
    rw [hf] at q
    intro F' O' H' x s1 r1 ⟨a, ex, fr⟩
    subst ex
    obtain ⟨F2, s2, r2, p2, _⟩ := fr.share s1 r1
    exact q F2 O' H' _ s2 r2 p2
  | exc c ρ' => rw [hf] at q; exact q
  | bad => rw [hf] at q; exact q
theorem ev_sr {f : En → RE PV} (h : EV X C .sh e f) : EV X C .rd e f := by
  refine PE.imp h fun σ H Q ⟨F, O, ρ, r, q⟩ => ⟨F, O, ρ, r, ?_⟩
  cases hf : f ρ with
  | ok v ρ' =>
    rw [hf] at q
    intro F' O' H' x s1 r1 p1
    exact q F' O' H' x s1 r1 (.s p1)
  | exc c ρ' => rw [hf] at q; exact q
  | bad => rw [hf] at q; exact q
theorem ev_fr {f : En → RE PV} (h : EV X C .fr e f) : EV X C .rd e f := by
  refine PE.imp h fun σ H Q ⟨F, O, ρ, r, q⟩ => ⟨F, O, ρ, r, ?_⟩
  cases hf : f ρ with
  | ok v ρ' =>
    rw [hf] at q
    intro F' O' H' x s1 r1 ⟨a, ex, fr⟩
    subst ex
    exact q F' O' H' _ s1 r1 (.o fr.at_)
  | exc c ρ' => rw [hf] at q; exact q
  | bad => rw [hf] at q; exact q
/-- a constant -/
@[simp] def eC (v : PV) (ρ : En) : RE PV := .ok v ρ
theorem ev_c {v : V} {p : PV} (h : PE X e (tC v)) (hr : ∀ F, Rep X.K F v p) : EV X C .sh e (eC p) := by
  refine PE.imp h fun σ H Q ⟨F, O, ρ, r, q⟩ => ?_
  exact q F O H v .refl r (hr F)
theorem ev_int {j k pos} : EV X C .sh (.Constant (.int j) k pos) (eC (.int j)) := ev_c pe_int fun _ => .int j
theorem ev_bl {j k pos} : EV X C .sh (.Constant (.bool j) k pos) (eC (.bool j)) := ev_c pe_bl fun _ => .bl j
theorem ev_non {k pos} : EV X C .sh (.Constant .none k pos) (eC .none) := ev_c pe_non fun _ => .non
theorem ev_str {j k pos} : EV X C .sh (.Constant (.str j) k pos) (eC (.str j)) := ev_c pe_str fun _ => .str j
end
end Fx

/-! part Fw2 -/
namespace Fx
open PySem PySem.Spec PyProof.Rows L2

section
variable {K : PySem.W.Frag} {C : Cf} {F H F1 H1 F2 H2 : Hp} {O O1 O2 : Own} {σ : L2.St} {ρ ρ' : En}
theorem ExcP.from {c : Nat} (s : Step F H O F1 H1 O1) (q : ExcP K C F H O σ c ρ') : ExcP K C F1 H1 O1 σ c ρ' := fun F' O' H' s' r' => q F' O' H' (s.trans s') r'
theorem RepR.step {x : V} {p : PV} (h : Rep K F1 x p) (s : Step F1 H1 O1 F2 H2 O2) : RepR K F2 H2 x p := .s (h.mono s.ext)
/-- an early value, behind a further piece of code -/
theorem ValK.step {k : Kd} (hk : k ≠ .rd) {x : V} {p : PV} (h : ValK K k H O F1 O1 H1 x p) (s : Step F1 H1 O1 F2 H2 O2) : RepR K F2 H2 x p := by
  cases k with
  | sh => exact .s (Rep.mono s.ext h)
  | rd => exact absurd rfl hk
  | fr =>
    obtain ⟨a, rfl, f⟩ := h
    exact .o (f.step s).at_
theorem ValK.rd {k : Kd} {x : V} {p : PV} (h : ValK K k H O F1 O1 H1 x p) : RepR K F1 H1 x p := by
  cases k with
  | sh => exact .s h
  | rd => exact h
  | fr =>
    obtain ⟨a, rfl, f⟩ := h
    exact .o f.at_
theorem ValK.from {k : Kd} {x : V} {p : PV} (s : Step F H O F1 H1 O1) (h : ValK K k H1 O1 F2 O2 H2 x p) : ValK K k H O F2 O2 H2 x p := by
  cases k with
  | sh => exact h
  | rd => exact h
  | fr =>
    obtain ⟨a, e, f⟩ := h
    exact ⟨a, e, f.from s⟩
theorem PostE.from {k : Kd} {Q : VK} (s : Step F H O F1 H1 O1) : ∀ {r : RE PV}, PostE K C k F H O σ Q r → PostE K C k F1 H1 O1 σ Q r
  | .ok v ρ', q => fun F' O' H' x s' r' p' => q F' O' H' x (s.trans s') r' (p'.from s)
  | .exc c ρ', q => ExcP.from s q
  | .bad, q => q
theorem PostB.from {Q : Bool → Hp → Prop} (s : Step F H O F1 H1 O1) : ∀ {r : RE Bool}, PostB K C F H O σ Q r → PostB K C F1 H1 O1 σ Q r
  | .ok v ρ', q => fun F' O' H' s' r' => q F' O' H' (s.trans s') r'
  | .exc c ρ', q => ExcP.from s q
  | .bad, q => q
theorem PostS.from {D : Ends} {σ1 : L2.St} (s : Step F H O F1 H1 O1) : ∀ {r : SR}, PostS K C F H O D σ r → PostS K C F1 H1 O1 D σ1 r
  | .nx ρ', q => fun F' O' σ' H' s' r' => q F' O' σ' H' (s.trans s') r'
  | .bk ρ', q => fun F' O' σ' H' s' r' => q F' O' σ' H' (s.trans s') r'
  | .ct ρ', q => fun F' O' σ' H' s' r' => q F' O' σ' H' (s.trans s') r'
  | .ret v ρ', q => fun F' O' σ' H' x s' r' p' => q F' O' σ' H' x (s.trans s') r' (p'.from s)
  | .exc c ρ', q => fun F' O' σ' H' s' r' => q F' O' σ' H' (s.trans s') r'
  | .bad, q => q
/-- an expression's end from the state it is at -/
theorem tE.go {k : Kd} {f : En → RE PV} {Q : VK} (r : Rel K C F O σ H ρ) (q : PostE K C k F H O σ Q (f ρ)) : tE K C k f σ H Q := ⟨F, O, ρ, r, q⟩
/-- e, then what is made of its value -/
theorem tE.bind {k : Kd} {f : En → RE PV} {Q : VK} (r : Rel K C F O σ H ρ)
    (ok : ∀ v ρ1 F1 O1 H1 x, f ρ = .ok v ρ1 → Step F H O F1 H1 O1 → Rel K C F1 O1 σ H1 ρ1 → ValK K k H O F1 O1 H1 x v → Q x H1) (ex : ∀ c ρ1, f ρ = .exc c ρ1 → ExcP K C F H O σ c ρ1) (nb : f ρ ≠ .bad) : tE K C k f σ H Q := by
  refine ⟨F, O, ρ, r, ?_⟩
  cases e : f ρ with
  | ok v ρ1 => exact fun F1 O1 H1 x s1 r1 p1 => ok v ρ1 F1 O1 H1 x e s1 r1 p1
  | exc c ρ1 => exact ex c ρ1 e
  | bad => exact absurd e nb
theorem tB'.bind {f : En → RE Bool} {Q : Bool → Hp → Prop} (r : Rel K C F O σ H ρ)
    (ok : ∀ v ρ1 F1 O1 H1, f ρ = .ok v ρ1 → Step F H O F1 H1 O1 → Rel K C F1 O1 σ H1 ρ1 → Q v H1) (ex : ∀ c ρ1, f ρ = .exc c ρ1 → ExcP K C F H O σ c ρ1) (nb : f ρ ≠ .bad) : tB' K C f σ H Q := by
  refine ⟨F, O, ρ, r, ?_⟩
  cases e : f ρ with
  | ok v ρ1 => exact fun F1 O1 H1 s1 r1 => ok v ρ1 F1 O1 H1 e s1 r1
  | exc c ρ1 => exact ex c ρ1 e
  | bad => exact absurd e nb

/-! ### heaps: what is new, what is written -/
theorem Rel.alloc {p : Addr} {o : HO} (r : Rel K C F O σ H ρ) (n : H p = none) : Rel K C F O σ (upd H p o) ρ ∧ Step F H O F (upd H p o) O := by
  have e : Same H (upd H p o) := same_put n o
  refine ⟨⟨fun a u q => e a u (r.sub a u q), r.len, fun i q h => ?_, r.inj, fun i a h => ?_, r.io, r.tabs.ext e, r.nt⟩, ⟨.refl _, fun _ h => .inl h, fun a u h _ => .inl (e a u h), fun i a h => .inl ⟨i, h⟩⟩⟩
  · obtain ⟨v, h1, h2⟩ := r.sl i q h
    refine ⟨v, h1, h2.mono (.refl _) fun a ha => ?_⟩
    obtain ⟨_, u, hu, _⟩ := r.out i a ha
    rw [e a u hu, hu]
  · obtain ⟨h1, u, h2, h3⟩ := r.out i a h
    exact ⟨h1, u, e a u h2, h3⟩
theorem Rel.free {p : Addr} (r : Rel K C F O σ H ρ) (n : H p = none) : F p = none ∧ ∀ i, O i ≠ some p := by
  refine ⟨Same.free r.sub n, fun i h => ?_⟩
  obtain ⟨_, u, hu, _⟩ := r.out i p h
  rw [n] at hu; cases hu
theorem Rel.allocF {p : Addr} {o : HO} (r : Rel K C F O σ H ρ) (n : H p = none) (hnt : ∀ ps, o ≠ .tbl ps := by intro _ z; cases z) : Rel K C (upd F p o) O σ (upd H p o) ρ ∧ Step F H O (upd F p o) (upd H p o) O := by
  have e : Same H (upd H p o) := same_put n o
  have eF : Same F (upd F p o) := same_put (r.free n).1 o
  have nO := (r.free n).2
  refine ⟨⟨fun a u q => ?_, r.len, fun i q h => ?_, r.inj, fun i a h => ?_, r.io, r.tabs.ext e, r.nt.put hnt⟩, ⟨eF, fun a h => ?_, fun a u h _ => .inl (e a u h), fun i a h => .inl ⟨i, h⟩⟩⟩
  · by_cases z : a = p
    · subst z; rw [upd_same] at q ⊢; exact q
    · rw [upd_ne z] at q ⊢; exact r.sub a u q
  · obtain ⟨v, h1, h2⟩ := r.sl i q h
    refine ⟨v, h1, h2.mono eF fun a ha => ?_⟩
    obtain ⟨_, u, hu, _⟩ := r.out i a ha
    rw [e a u hu, hu]
  · obtain ⟨h1, u, h2, h3⟩ := r.out i a h
    exact ⟨by rw [upd_ne fun z => nO i (by rw [← z]; exact h)]; exact h1, u, e a u h2, h3⟩
  · by_cases z : a = p
    · subst z; exact .inr (.inl (.none n))
    · rw [upd_ne z] at h; exact .inl h
theorem Rel.newList {p : Addr} {xs : List V} {ds : List PV} (r : Rel K C F O σ H ρ) (n : H p = none) (q : RepA K F xs ds) :
    Step F H O F (upd H p (.lst xs)) O ∧ Rel K C F O σ (upd H p (.lst xs)) ρ ∧ Fresh K H O F O (upd H p (.lst xs)) p (.list ds) :=
  ⟨(r.alloc n).2, (r.alloc n).1, .inl (.none n), (r.free n).1, (r.free n).2, .lst upd_same q⟩
theorem Rel.newTup {p : Addr} {xs : List V} {ds : List PV} {o : Obj} (r : Rel K C F O σ H ρ) (n : H p = none) (hd : o.dict = none) (q : RepA K F xs ds) :
    ∃ F', Step F H O F' (upd H p (.frz o (.tup xs))) O ∧ Rel K C F' O σ (upd H p (.frz o (.tup xs))) ρ ∧ Rep K F' (.ref p) (.tuple ds) :=
  ⟨_, (r.allocF n).2, (r.allocF n).1, .tup (.inl ⟨o, upd_same, hd⟩) (q.mono (same_put (r.free n).1 _))⟩
theorem tabs_upd {T : List (Addr × Str)} {H : Hp} {a : Addr} {o : HO} (t : LamX.Tabs T H) (h1 : ∀ ps, H a ≠ some (.tbl ps)) (h2 : ∀ φ, H a ≠ some (.ext φ)) : LamX.Tabs T (upd H a o) := fun p hp => by
  obtain ⟨ps, e, t1, t2⟩ := t p hp
  refine ⟨ps, by rw [upd_ne fun z => h1 ps (by rw [← z]; exact e)]; exact e, t1, fun pos cv hc => ?_⟩
  obtain ⟨c, e1, e2⟩ := t2 pos cv hc
  exact ⟨c, e1, by rw [upd_ne fun z => h2 _ (by rw [← z]; exact e2)]; exact e2⟩
/-- an owned object is written -/
theorem Rel.write {i : Nat} {a : Addr} {o : HO} {p : PV} (r : Rel K C F O σ H ρ) (hv : σ[i]? = some (some (.ref a))) (ha : O i = some a) {p0 : PV} (q0 : OwnAt K F H a p0) (q : OwnAt K F (upd H a o) a p) :
    Step F H O F (upd H a o) O ∧ Rel K C F O σ (upd H a o) (ρ.set i (some (.o p))) := by
  obtain ⟨nF, u, hu⟩ := r.out i a ha
  refine ⟨⟨.refl _, fun _ h => .inl h, fun b w h n => ?_, fun j b h => .inl ⟨j, h⟩⟩, ⟨fun b w h => ?_, by rw [List.length_set]; exact r.len, fun j p' h => ?_, r.inj, fun j b h => ?_, r.io, ?_, r.nt⟩⟩
  · rw [upd_ne fun z => n i (by rw [z]; exact ha)]; exact .inl h
  · rw [upd_ne fun z => by rw [z, nF] at h; cases h]; exact r.sub b w h
  · rcases getElem_set h with ⟨z, z2, _⟩ | ⟨n, h⟩
    · subst z; cases z2; exact ⟨_, hv, .o ha q⟩
    · obtain ⟨v, h1, h2⟩ := r.sl j p' h
      refine ⟨v, h1, h2.mono (.refl _) fun b hb => ?_⟩
      rw [upd_ne fun z => n (r.inj j i a (by rw [← z]; exact hb) ha)]
  · by_cases z : b = a
    · subst z; exact ⟨nF, _, upd_same, by obtain ⟨o', e1, e2⟩ := q.plain; rw [upd_same] at e1; cases e1; exact e2⟩
    · rw [upd_ne z]; exact r.out j b h
  · exact tabs_upd r.tabs (fun ps z => by obtain ⟨o', e1, e2⟩ := q0.plain; rw [e1] at z; exact e2 ps (Option.some.inj z)) fun φ => q0.notExt φ
/-- a shared value goes into a slot -/
theorem Rel.putS {i : Nat} {x : V} {p : PV} (r : Rel K C F O σ H ρ) (hi : i ∉ C.ioS) (q : Rep K F x p) : Rel K C F (freeO O i) (σ.set i (some x)) H (ρ.set i (some (.s p))) := by
  refine ⟨r.sub, by rw [List.length_set, List.length_set]; exact r.len, fun j p' h => ?_, fun j k a h1 h2 => r.inj j k a (freeO_le h1).1 (freeO_le h2).1, fun j a h => r.out j a (freeO_le h).1, fun p' hp => ?_, r.tabs, r.nt⟩
  · rcases getElem_set h with ⟨z, z2, hl⟩ | ⟨n, h⟩
    · subst z; cases z2
      exact ⟨x, List.getElem?_set_self (by rw [← r.len]; exact hl), .s q⟩
    · obtain ⟨v, h1, h2⟩ := r.sl j p' h
      refine ⟨v, by rw [List.getElem?_set_ne (Ne.symm n)]; exact h1, ?_⟩
      unfold freeO; rw [if_neg n]; exact h2
  · unfold freeO
    rw [if_neg fun z => hi (by rw [← z]; exact (List.of_mem_zip (show (p'.1, p'.2) ∈ C.ioS.zip C.ioA from hp)).1)]
    exact r.io p' hp
def putO (O : Own) (i : Nat) (a : Addr) : Own := fun j => if j = i then some a else O j
/-- an owned one goes into a slot -/
theorem Rel.putO {i : Nat} {a : Addr} {p : PV} (s : Step F H O F1 H1 O1) (r : Rel K C F1 O1 σ H1 ρ) (hi : i ∉ C.ioS) (f : Fresh K H O F1 O1 H1 a p) :
    Step F H O F1 H1 (putO O1 i a) ∧ Rel K C F1 (putO O1 i a) (σ.set i (some (.ref a))) H1 (ρ.set i (some (.o p))) := by
  have le : ∀ {j b}, Fx.putO O1 i a j = some b → (j = i ∧ b = a) ∨ (j ≠ i ∧ O1 j = some b) := fun {j b} h => by
    unfold Fx.putO at h
    split at h
    · exact .inl ⟨by assumption, (Option.some.inj h).symm⟩
    · exact .inr ⟨by assumption, h⟩
  refine ⟨⟨s.ext, s.new, s.frm, fun j b h => ?_⟩, ⟨r.sub, by rw [List.length_set, List.length_set]; exact r.len, fun j p' h => ?_, fun j k b h1 h2 => ?_, fun j b h => ?_, fun p' hp => ?_, r.tabs, r.nt⟩⟩
  · rcases le h with ⟨_, z⟩ | ⟨_, z⟩
    · subst z; exact f.new.symm
    · exact s.own j b z
  · rcases getElem_set h with ⟨z, z2, hl⟩ | ⟨n, h⟩
    · subst z; cases z2
      exact ⟨_, List.getElem?_set_self (by rw [← r.len]; exact hl), .o (by unfold Fx.putO; rw [if_pos rfl]) f.at_⟩
    · obtain ⟨v, h1, h2⟩ := r.sl j p' h
      refine ⟨v, by rw [List.getElem?_set_ne (Ne.symm n)]; exact h1, ?_⟩
      unfold Fx.putO; rw [if_neg n]; exact h2
  · rcases le h1 with ⟨z1, z2⟩ | ⟨z1, z2⟩
    · rcases le h2 with ⟨w1, w2⟩ | ⟨w1, w2⟩
      · rw [z1, w1]
      · subst z2; exact absurd w2 (f.nO k)
    · rcases le h2 with ⟨w1, w2⟩ | ⟨w1, w2⟩
      · subst w2; exact absurd z2 (f.nO j)
      · exact r.inj j k b z2 w2
  · rcases le h with ⟨_, z⟩ | ⟨_, z⟩
    · subst z; exact ⟨f.nF, f.at_.plain⟩
    · exact r.out j b z
  · unfold Fx.putO
    rw [if_neg fun z => hi (by rw [← z]; exact (List.of_mem_zip (show (p'.1, p'.2) ∈ C.ioS.zip C.ioA from hp)).1)]
    exact r.io p' hp
end

/-! ### two operands -/
section
variable (K : PySem.W.Frag) (C : Cf)
def Post2 (F H : Hp) (O : Own) (σ : L2.St) (R : V → V → Hp → Prop) : RE (PV × PV) → Prop
  | .ok p ρ' => ∀ F' O' H' x y, Step F H O F' H' O' → Rel K C F' O' σ H' ρ' → RepR K F' H' x p.1 → RepR K F' H' y p.2 → R x y H'
  | .exc c ρ' => ExcP K C F H O σ c ρ'
  | .bad => False
def t2 (f : En → RE (PV × PV)) (σ : L2.St) (H : Hp) (R : V → V → Hp → Prop) : Prop := ∃ F O ρ, Rel K C F O σ H ρ ∧ Post2 K C F H O σ R (f ρ)
end
structure E2 (X : Cx) (C : Cf) (a b : Expr) (f : En → RE (PV × PV)) : Prop where
  ex : ∃ ta tb, PE X a ta ∧ PE X b tb ∧ ∀ σ H R, t2 X.K C f σ H R → ta σ H fun x H1 => tb σ H1 fun y H2 => R x y H2
section
variable {X : Cx} {C : Cf} {a b e : Expr} {es : List Expr} {fa fb : En → RE PV} {pos : Pos}
@[simp] def pE (fa fb : En → RE PV) (ρ : En) : RE (PV × PV) := (fa ρ).bind fun v ρ1 => (fb ρ1).bind fun w ρ2 => .ok (v, w) ρ2
/-- the left one is a name that is looked at behind the right one -/
@[simp] def pL (i : Nat) (fb : En → RE PV) (ρ : En) : RE (PV × PV) := match ρ.at i with
  | none => .bad
  | some _ => (fb ρ).bind fun w ρ2 => match ρ2.at i with
    | some (.s v) => .ok (v, w) ρ2
    | some (.o v) => .ok (v, w) ρ2
    | _ => .bad
theorem e2_e {ka kb : Kd} (hk : ka ≠ .rd) (ha : EV X C ka a fa) (hb : EV X C kb b fb) : E2 X C a b (pE fa fb) := by
  refine ⟨_, _, ha, hb, fun σ H R ⟨F, O, ρ, r, q⟩ => ?_⟩
  unfold pE at q
  refine tE.bind r (fun v ρ1 F1 O1 H1 x e1 s1 r1 p1 => ?_) (fun c ρ1 e1 => ?_) fun e1 => ?_
  · rw [e1] at q
    refine tE.bind r1 (fun w ρ2 F2 O2 H2 y e2 s2 r2 p2 => ?_) (fun c ρ2 e2 => ?_) fun e2 => ?_
    · simp only [RE.bind, e2] at q
      exact q F2 O2 H2 x y (s1.trans s2) r2 (p1.step hk s2) p2.rd
    · simp only [RE.bind, e2] at q
      exact ExcP.from s1 q
    · simp only [RE.bind, e2] at q
      exact q.elim
  · rw [e1] at q; exact q
  · rw [e1] at q; exact q.elim
theorem e2_l {kb : Kd} {i : Nat} {x : Str} {px : Pos} (hx : PE X (.Name x px) (tVar i)) (hb : EV X C kb b fb) : E2 X C (.Name x px) b (pL i fb) := by
  refine ⟨_, _, hx, hb, fun σ H R ⟨F, O, ρ, r, q⟩ => ?_⟩
  unfold pL at q
  split at q
  · exact q.elim
  · rename_i p hp
    obtain ⟨v0, h1, _⟩ := r.get hp
    refine ⟨v0, h1, tE.bind r (fun w ρ2 F2 O2 H2 y e2 s2 r2 p2 => ?_) (fun c ρ2 e2 => ?_) fun e2 => ?_⟩
    · simp only [RE.bind, e2] at q
      split at q
      · rename_i v hv
        obtain ⟨v1, h3, h4⟩ := r2.get hv
        rw [h1] at h3; cases h3
        exact q F2 O2 H2 _ y s2 r2 (h4.read (.inl rfl)) p2.rd
      · rename_i v hv
        obtain ⟨v1, h3, h4⟩ := r2.get hv
        rw [h1] at h3; cases h3
        exact q F2 O2 H2 _ y s2 r2 (h4.read (.inr rfl)) p2.rd
      · exact q.elim
    · simp only [RE.bind, e2] at q; exact q
    · simp only [RE.bind, e2] at q; exact q.elim

/-! ### argument lists -/
@[simp] def aNil (ρ : En) : RE (List PV) := .ok [] ρ
@[simp] def aCons (fa : En → RE PV) (fr : En → RE (List PV)) (ρ : En) : RE (List PV) := (fa ρ).bind fun v ρ1 => (fr ρ1).bind fun vs ρ2 => .ok (v :: vs) ρ2
@[simp] def aLate (i : Nat) (fr : En → RE (List PV)) (ρ : En) : RE (List PV) := match ρ.at i with
  | none => .bad
  | some _ => (fr ρ).bind fun vs ρ2 => match ρ2.at i with
    | some (.s v) => .ok (v :: vs) ρ2
    | some (.o v) => .ok (v :: vs) ρ2
    | _ => .bad
theorem av_nil {k : Kd} : AV X C k [] aNil := PA.imp pa_nil fun σ H Q ⟨F, O, ρ, r, q⟩ => q F O H [] .refl r (by cases k <;> first | exact .nil)
theorem tA.bind {K : PySem.W.Frag} {F H : Hp} {O : Own} {σ : L2.St} {ρ : En} {k : Kd} {f : En → RE (List PV)} {Q : List V → Hp → Prop} (r : Rel K C F O σ H ρ)
    (ok : ∀ v ρ1 F1 O1 H1 x, f ρ = .ok v ρ1 → Step F H O F1 H1 O1 → Rel K C F1 O1 σ H1 ρ1 → ArgK K k F1 H1 x v → Q x H1) (ex : ∀ c ρ1, f ρ = .exc c ρ1 → ExcP K C F H O σ c ρ1) (nb : f ρ ≠ .bad) : tA K C k f σ H Q := by
  refine ⟨F, O, ρ, r, ?_⟩
  cases e : f ρ with
  | ok v ρ1 => exact fun F1 O1 H1 x s1 r1 p1 => ok v ρ1 F1 O1 H1 x e s1 r1 p1
  | exc c ρ1 => exact ex c ρ1 e
  | bad => exact absurd e nb
theorem av_cons {fr : En → RE (List PV)} (ha : EV X C .sh e fa) (hr : AV X C .sh es fr) (hs : starEach (e :: es) X.env = (false, eval e X.env) :: starEach es X.env := by rfl) : AV X C .sh (e :: es) (aCons fa fr) := by
  refine PA.imp (pa_cons ha hr hs) fun σ H Q ⟨F, O, ρ, r, q⟩ => ?_
  unfold aCons at q
  refine tE.bind r (fun v ρ1 F1 O1 H1 x e1 s1 r1 p1 => ?_) (fun c ρ1 e1 => ?_) fun e1 => ?_
  · rw [e1] at q
    refine tA.bind r1 (fun w ρ2 F2 O2 H2 y e2 s2 r2 p2 => ?_) (fun c ρ2 e2 => ?_) fun e2 => ?_
    · simp only [RE.bind, e2] at q
      exact q F2 O2 H2 _ (s1.trans s2) r2 (.cons (Rep.mono s2.ext p1) p2)
    · simp only [RE.bind, e2] at q
      exact ExcP.from s1 q
    · simp only [RE.bind, e2] at q
      exact q.elim
  · rw [e1] at q; exact q
  · rw [e1] at q; exact q.elim
theorem avr_cons {ka : Kd} {fr : En → RE (List PV)} (hk : ka ≠ .rd) (ha : EV X C ka e fa) (hr : AV X C .rd es fr) (hs : starEach (e :: es) X.env = (false, eval e X.env) :: starEach es X.env := by rfl) : AV X C .rd (e :: es) (aCons fa fr) := by
  refine PA.imp (pa_cons ha hr hs) fun σ H Q ⟨F, O, ρ, r, q⟩ => ?_
  unfold aCons at q
  refine tE.bind r (fun v ρ1 F1 O1 H1 x e1 s1 r1 p1 => ?_) (fun c ρ1 e1 => ?_) fun e1 => ?_
  · rw [e1] at q
    refine tA.bind r1 (fun w ρ2 F2 O2 H2 y e2 s2 r2 p2 => ?_) (fun c ρ2 e2 => ?_) fun e2 => ?_
    · simp only [RE.bind, e2] at q
      exact q F2 O2 H2 _ (s1.trans s2) r2 (.cons (p1.step hk s2) p2)
    · simp only [RE.bind, e2] at q
      exact ExcP.from s1 q
    · simp only [RE.bind, e2] at q
      exact q.elim
  · rw [e1] at q; exact q
  · rw [e1] at q; exact q.elim
theorem avr_late {i : Nat} {x : Str} {px : Pos} {fr : En → RE (List PV)} (hx : PE X (.Name x px) (tVar i)) (hr : AV X C .rd es fr) (hs : starEach (.Name x px :: es) X.env = (false, eval (.Name x px) X.env) :: starEach es X.env := by rfl) : AV X C .rd (.Name x px :: es) (aLate i fr) := by
  refine PA.imp (pa_cons hx hr hs) fun σ H Q ⟨F, O, ρ, r, q⟩ => ?_
  unfold aLate at q
  split at q
  · exact q.elim
  · rename_i p hp
    obtain ⟨v0, h1, _⟩ := r.get hp
    refine ⟨v0, h1, tA.bind r (fun w ρ2 F2 O2 H2 y e2 s2 r2 p2 => ?_) (fun c ρ2 e2 => ?_) fun e2 => ?_⟩
    · simp only [RE.bind, e2] at q
      split at q
      · rename_i v hv
        obtain ⟨v1, h3, h4⟩ := r2.get hv
        rw [h1] at h3; cases h3
        exact q F2 O2 H2 _ s2 r2 (.cons (h4.read (.inl rfl)) p2)
      · rename_i v hv
        obtain ⟨v1, h3, h4⟩ := r2.get hv
        rw [h1] at h3; cases h3
        exact q F2 O2 H2 _ s2 r2 (.cons (h4.read (.inr rfl)) p2)
      · exact q.elim
    · simp only [RE.bind, e2] at q; exact q
    · simp only [RE.bind, e2] at q; exact q.elim
theorem RepA.toRA {K : PySem.W.Frag} {F H : Hp} : ∀ {xs : List V} {ds : List PV}, RepA K F xs ds → RepRA K F H xs ds
  | _, _, .nil => .nil
  | _, _, .cons h r => .cons (.s h) (RepA.toRA r)
theorem av_sr {f : En → RE (List PV)} (h : AV X C .sh es f) : AV X C .rd es f := by
  refine PA.imp h fun σ H Q ⟨F, O, ρ, r, q⟩ => ⟨F, O, ρ, r, ?_⟩
  cases hf : f ρ with
  | ok v ρ' =>
    rw [hf] at q
    exact fun F' O' H' x s1 r1 p1 => q F' O' H' x s1 r1 (RepA.toRA p1)
  | exc c ρ' => rw [hf] at q; exact q
  | bad => rw [hf] at q; exact q
end

/-! ### operations on values -/
/-- a comparison: its answer by the data -/
def OpB (X : Cx) (f : Value → Value → Sem Value) (g : PV → PV → Option Bool) : Prop :=
  OpR X f fun x y H Q => ∃ v w b, Rep X.K H x v ∧ Rep X.K H y w ∧ g v w = some b ∧ Q (.bl b) H
section
variable {X : Cx} {C : Cf} {a b e : Expr} {fa fb : En → RE PV} {f2 : En → RE (PV × PV)} {pos : Pos}
@[simp] def eCmp (g : PV → PV → Option Bool) (f2 : En → RE (PV × PV)) (ρ : En) : RE PV := (f2 ρ).bind fun p ρ1 => match g p.1 p.2 with | some b => .ok (.bool b) ρ1 | none => .bad
@[simp] def bCmp (g : PV → PV → Option Bool) (f2 : En → RE (PV × PV)) (ρ : En) : RE Bool := (f2 ρ).bind fun p ρ1 => match g p.1 p.2 with | some b => .ok b ρ1 | none => .bad
theorem ev_cmp {op : CmpOp} {g : PV → PV → Option Bool} (ho : OpB X (compareOp op) g) (h2 : E2 X C a b f2) (hm : behindInMarks op b = false) : EV X C .sh (.Compare a [op] [b] pos) (eCmp g f2) := by
  obtain ⟨ta, tb, ha, hb, h⟩ := h2
  refine PE.imp (pe_cmpR ho ha hb hm) fun σ H Q ⟨F, O, ρ, r, q⟩ => ?_
  refine h σ H _ ⟨F, O, ρ, r, ?_⟩
  unfold eCmp at q
  cases e : f2 ρ with
  | ok p ρ1 =>
    rw [e] at q
    simp only [RE.bind] at q
    intro F1 O1 H1 x y s1 r1 px py
    cases eg : g p.1 p.2 with
    | none => rw [eg] at q; exact q.elim
    | some bb =>
      rw [eg] at q
      exact ⟨_, _, bb, px.rep r1.sub, py.rep r1.sub, eg, q F1 O1 H1 _ s1 r1 (.bl bb)⟩
  | exc c ρ1 => rw [e] at q; exact q
  | bad => rw [e] at q; exact q
theorem tv_cmp {op : CmpOp} {g : PV → PV → Option Bool} (ho : OpB X (compareOp op) g) (h2 : E2 X C a b f2) (hm : behindInMarks op b = false) : TV X C (.Compare a [op] [b] pos) (bCmp g f2) := by
  obtain ⟨ta, tb, ha, hb, h⟩ := h2
  refine PT.imp (pt_cmpR ho ha hb hm) fun σ H Q ⟨F, O, ρ, r, q⟩ => ?_
  refine h σ H _ ⟨F, O, ρ, r, ?_⟩
  unfold bCmp at q
  cases e : f2 ρ with
  | ok p ρ1 =>
    rw [e] at q
    simp only [RE.bind] at q
    intro F1 O1 H1 x y s1 r1 px py
    cases eg : g p.1 p.2 with
    | none => rw [eg] at q; exact q.elim
    | some bb =>
      rw [eg] at q
      exact ⟨_, _, bb, px.rep r1.sub, py.rep r1.sub, eg, bb, rfl, q F1 O1 H1 s1 r1⟩
  | exc c ρ1 => rw [e] at q; exact q
  | bad => rw [e] at q; exact q
/-- an expression that gives a truth, as a test -/
@[simp] def bVal (f : En → RE PV) (ρ : En) : RE Bool := (f ρ).bind fun v ρ1 => match v with | .bool b => .ok b ρ1 | _ => .bad
theorem tv_val {f : En → RE PV} (h : EV X C .sh e f) (he : ∀ whole, isTrue e X.env whole = (do let v ← whole; standAt e.pos; holding [v] (truthy v)) := by intro _; rfl) : TV X C e (bVal f) := by
  refine PT.imp (pt_val h he) fun σ H Q ⟨F, O, ρ, r, q⟩ => ⟨F, O, ρ, r, ?_⟩
  unfold bVal at q
  cases ef : f ρ with
  | ok v ρ1 =>
    rw [ef] at q
    simp only [RE.bind] at q
    intro F1 O1 H1 x s1 r1 p1
    split at q
    · cases (show Rep X.K F1 x (.bool _) from p1)
      exact ⟨_, rfl, q F1 O1 H1 s1 r1⟩
    · exact q.elim
  | exc c ρ1 => rw [ef] at q; exact q
  | bad => rw [ef] at q; exact q
/-- a value's truth -/
@[simp] def truth : PV → Option Bool
  | .none => some false
  | .bool b => some b
  | .int i => some (i != 0)
  | .list xs => some (!xs.isEmpty)
  | .tuple xs => some (!xs.isEmpty)
  | _ => none
theorem RepA.isEmpty {K : PySem.W.Frag} {H : Hp} {xs : List V} {ds : List PV} : RepA K H xs ds → (!xs.isEmpty) = (!ds.isEmpty)
  | .nil => rfl
  | .cons _ _ => rfl
theorem truV_of {K : PySem.W.Frag} {H : Hp} {x : V} {v : PV} {b : Bool} (r : Rep K H x v) (h : truth v = some b) : TruV K x H b := by
  cases r with
  | non => cases h; rfl
  | bl => cases h; rfl
  | int => cases h; rfl
  | str => cases h
  | lst q t => cases h; exact .inl ⟨_, .of q, t.isEmpty.symm⟩
  | scr => cases h
  | tup q t => cases h; exact .inr (.inl ⟨_, q.sq, t.isEmpty.symm⟩)
  | dK => cases h
@[simp] def bTru (f : En → RE PV) (ρ : En) : RE Bool := (f ρ).bind fun v ρ1 => match truth v with | some b => .ok b ρ1 | none => .bad
theorem tv_tru {f : En → RE PV} (h : EV X C .rd e f) (he : ∀ whole, isTrue e X.env whole = (do let v ← whole; standAt e.pos; holding [v] (truthy v)) := by intro _; rfl) : TV X C e (bTru f) := by
  refine PT.imp (pt_truth h he) fun σ H Q ⟨F, O, ρ, r, q⟩ => ⟨F, O, ρ, r, ?_⟩
  unfold bTru at q
  cases ef : f ρ with
  | ok v ρ1 =>
    rw [ef] at q
    simp only [RE.bind] at q
    intro F1 O1 H1 x s1 r1 p1
    split at q
    · rename_i b hb
      exact ⟨b, truV_of (RepR.rep r1.sub p1) hb, q F1 O1 H1 s1 r1⟩
    · exact q.elim
  | exc c ρ1 => rw [ef] at q; exact q
  | bad => rw [ef] at q; exact q
/-! ### and, or, not -/
variable {ga gb : En → RE Bool} {rest : List Expr}
@[simp] def bAnd (ga gb : En → RE Bool) (ρ : En) : RE Bool := (ga ρ).bind fun v ρ1 => if v then gb ρ1 else .ok false ρ1
@[simp] def bOr (ga gb : En → RE Bool) (ρ : En) : RE Bool := (ga ρ).bind fun v ρ1 => if v then .ok true ρ1 else gb ρ1
@[simp] def bNot (ga : En → RE Bool) (ρ : En) : RE Bool := (ga ρ).bind fun v ρ1 => .ok (!v) ρ1
theorem wv_and1 (ha : TV X C a ga) : WV X C (.BoolOp .And [a] pos) ga := pw_and1 ha
theorem wv_or1 (ha : TV X C a ga) : WV X C (.BoolOp .Or [a] pos) ga := pw_or1 ha
theorem wv_and (ha : TV X C a ga) (hb : WV X C (.BoolOp .And (b :: rest) pos) gb) : WV X C (.BoolOp .And (a :: b :: rest) pos) (bAnd ga gb) := by
  refine PW.imp (pw_and ha hb) fun σ H Q ⟨F, O, ρ, r, q⟩ => ?_
  unfold bAnd at q
  refine tB'.bind r (fun v ρ1 F1 O1 H1 e1 s1 r1 => ?_) (fun c ρ1 e1 => ?_) fun e1 => ?_
  · rw [e1] at q
    simp only [RE.bind] at q
    cases v with
    | true => exact ⟨F1, O1, ρ1, r1, PostB.from s1 q⟩
    | false => exact q F1 O1 H1 s1 r1
  · rw [e1] at q; exact q
  · rw [e1] at q; exact q.elim
theorem wv_or (ha : TV X C a ga) (hb : WV X C (.BoolOp .Or (b :: rest) pos) gb) : WV X C (.BoolOp .Or (a :: b :: rest) pos) (bOr ga gb) := by
  refine PW.imp (pw_or ha hb) fun σ H Q ⟨F, O, ρ, r, q⟩ => ?_
  unfold bOr at q
  refine tB'.bind r (fun v ρ1 F1 O1 H1 e1 s1 r1 => ?_) (fun c ρ1 e1 => ?_) fun e1 => ?_
  · rw [e1] at q
    simp only [RE.bind] at q
    cases v with
    | false => exact ⟨F1, O1, ρ1, r1, PostB.from s1 q⟩
    | true => exact q F1 O1 H1 s1 r1
  · rw [e1] at q; exact q
  · rw [e1] at q; exact q.elim
theorem tv_w (h : WV X C e ga) : TV X C e ga := PW.pt h
theorem tv_not (ha : TV X C a ga) : TV X C (.UnaryOp .Not a pos) (bNot ga) := by
  refine PT.imp (pt_not ha) fun σ H Q ⟨F, O, ρ, r, q⟩ => ?_
  unfold bNot at q
  refine tB'.bind r (fun v ρ1 F1 O1 H1 e1 s1 r1 => ?_) (fun c ρ1 e1 => ?_) fun e1 => ?_
  · rw [e1] at q
    exact q F1 O1 H1 s1 r1
  · rw [e1] at q; exact q
  · rw [e1] at q; exact q.elim
/-- .. as values, truths all but the last -/
@[simp] def eAnd (fa fb : En → RE PV) (ρ : En) : RE PV := (fa ρ).bind fun v ρ1 => match v with | .bool true => fb ρ1 | .bool false => .ok (.bool false) ρ1 | _ => .bad
@[simp] def eOr (fa fb : En → RE PV) (ρ : En) : RE PV := (fa ρ).bind fun v ρ1 => match v with | .bool false => fb ρ1 | .bool true => .ok (.bool true) ρ1 | _ => .bad
@[simp] def eNot (fa : En → RE PV) (ρ : En) : RE PV := (fa ρ).bind fun v ρ1 => match v with | .bool b => .ok (.bool (!b)) ρ1 | _ => .bad
theorem ev_one {op : BoolOp} {k : Kd} (h : EV X C k a fa) : EV X C k (.BoolOp op [a] pos) fa := pe_one h
theorem ev_and (ha : EV X C .sh a fa) (hb : EV X C .sh (.BoolOp .And (b :: rest) pos) fb) : EV X C .sh (.BoolOp .And (a :: b :: rest) pos) (eAnd fa fb) := by
  refine PE.imp (pe_and ha hb) fun σ H Q ⟨F, O, ρ, r, q⟩ => ?_
  unfold eAnd at q
  refine tE.bind r (fun v ρ1 F1 O1 H1 x e1 s1 r1 p1 => ?_) (fun c ρ1 e1 => ?_) fun e1 => ?_
  · rw [e1] at q
    simp only [RE.bind] at q
    have p1 : Rep X.K F1 x v := p1
    split at q
    · cases p1; exact ⟨true, rfl, F1, O1, ρ1, r1, PostE.from s1 q⟩
    · cases p1; exact ⟨false, rfl, q F1 O1 H1 _ s1 r1 (.bl false)⟩
    · exact q.elim
  · rw [e1] at q; exact q
  · rw [e1] at q; exact q.elim
theorem ev_or (ha : EV X C .sh a fa) (hb : EV X C .sh (.BoolOp .Or (b :: rest) pos) fb) : EV X C .sh (.BoolOp .Or (a :: b :: rest) pos) (eOr fa fb) := by
  refine PE.imp (pe_or ha hb) fun σ H Q ⟨F, O, ρ, r, q⟩ => ?_
  unfold eOr at q
  refine tE.bind r (fun v ρ1 F1 O1 H1 x e1 s1 r1 p1 => ?_) (fun c ρ1 e1 => ?_) fun e1 => ?_
  · rw [e1] at q
    simp only [RE.bind] at q
    have p1 : Rep X.K F1 x v := p1
    split at q
    · cases p1; exact ⟨false, rfl, F1, O1, ρ1, r1, PostE.from s1 q⟩
    · cases p1; exact ⟨true, rfl, q F1 O1 H1 _ s1 r1 (.bl true)⟩
    · exact q.elim
  · rw [e1] at q; exact q
  · rw [e1] at q; exact q.elim
theorem ev_not (ha : EV X C .sh a fa) : EV X C .sh (.UnaryOp .Not a pos) (eNot fa) := by
  refine PE.imp (pe_not ha) fun σ H Q ⟨F, O, ρ, r, q⟩ => ?_
  unfold eNot at q
  refine tE.bind r (fun v ρ1 F1 O1 H1 x e1 s1 r1 p1 => ?_) (fun c ρ1 e1 => ?_) fun e1 => ?_
  · rw [e1] at q
    simp only [RE.bind] at q
    have p1 : Rep X.K F1 x v := p1
    split at q
    · cases p1; exact ⟨_, rfl, q F1 O1 H1 _ s1 r1 (.bl _)⟩
    · exact q.elim
  · rw [e1] at q; exact q
  · rw [e1] at q; exact q.elim
/-- a if t else b -/
@[simp] def eIf (gt : En → RE Bool) (fa fb : En → RE PV) (ρ : En) : RE PV := (gt ρ).bind fun v ρ1 => if v then fa ρ1 else fb ρ1
theorem ev_if {k : Kd} {c : Expr} {gt : En → RE Bool} (hc : TV X C c gt) (ha : EV X C k a fa) (hb : EV X C k b fb) : EV X C k (.IfExp c a b pos) (eIf gt fa fb) := by
  refine PE.imp (pe_ifExp hc ha hb) fun σ H Q ⟨F, O, ρ, r, q⟩ => ?_
  unfold eIf at q
  refine tB'.bind r (fun v ρ1 F1 O1 H1 e1 s1 r1 => ?_) (fun c ρ1 e1 => ?_) fun e1 => ?_
  · rw [e1] at q
    simp only [RE.bind] at q
    cases v with
    | true => exact ⟨F1, O1, ρ1, r1, PostE.from s1 q⟩
    | false => exact ⟨F1, O1, ρ1, r1, PostE.from s1 q⟩
  · rw [e1] at q; exact q
  · rw [e1] at q; exact q.elim
end

/-! ### statements -/
section
variable {X : Cx} {C : Cf} {st : Stmt} {sts : List Stmt} {e : Expr} {pos : Pos} {g h : En → SR} {f : En → RE PV}
@[simp] def sNil (ρ : En) : SR := .nx ρ
@[simp] def sSeq (g h : En → SR) (ρ : En) : SR := match g ρ with | .nx ρ1 => h ρ1 | r => r
theorem sv_nil : SVs X C [] sNil := PSs.imp pss_nil fun D σ H ⟨F, O, ρ, r, q⟩ => q F O σ H .refl r
theorem tS.bind {K : PySem.W.Frag} {F H : Hp} {O : Own} {σ : L2.St} {ρ : En} {D' : Ends} (r : Rel K C F O σ H ρ)
    (nx : ∀ ρ1 F1 O1 σ1 H1, g ρ = .nx ρ1 → Step F H O F1 H1 O1 → Rel K C F1 O1 σ1 H1 ρ1 → D'.nx σ1 H1) (oth : (∀ ρ1, g ρ ≠ .nx ρ1) → PostS K C F H O D' σ (g ρ)) : tS K C g D' σ H := by
  refine ⟨F, O, ρ, r, ?_⟩
  cases e : g ρ with
  | nx ρ1 => exact fun F1 O1 σ1 H1 s1 r1 => nx ρ1 F1 O1 σ1 H1 e s1 r1
  | ret v ρ1 => rw [← e]; exact oth fun _ z => by rw [e] at z; cases z
  | bk ρ1 => rw [← e]; exact oth fun _ z => by rw [e] at z; cases z
  | ct ρ1 => rw [← e]; exact oth fun _ z => by rw [e] at z; cases z
  | exc c ρ1 => rw [← e]; exact oth fun _ z => by rw [e] at z; cases z
  | bad => rw [← e]; exact oth fun _ z => by rw [e] at z; cases z
/-- an end that is no next does not hang on nx -/
theorem PostS.nx_irrel {K : PySem.W.Frag} {F H : Hp} {O : Own} {σ : L2.St} {D : Ends} {N : L2.St → Hp → Prop} : ∀ {r : SR}, (∀ ρ1, r ≠ .nx ρ1) → PostS K C F H O D σ r → PostS K C F H O { D with nx := N } σ r
  | .nx _, n, _ => absurd rfl (n _)
  | .ret _ _, _, q => q
  | .bk _, _, q => q
  | .ct _, _, q => q
  | .exc _ _, _, q => q
  | .bad, _, q => q
theorem sv_cons (h1 : SV X C st g) (h2 : SVs X C sts h) : SVs X C (st :: sts) (sSeq g h) := by
  refine PSs.imp (pss_cons h1 h2) fun D σ H ⟨F, O, ρ, r, q⟩ => ?_
  unfold sSeq at q
  refine tS.bind r (fun ρ1 F1 O1 σ1 H1 e1 s1 r1 => ?_) fun n => ?_
  · rw [e1] at q
    exact ⟨F1, O1, ρ1, r1, PostS.from s1 q⟩
  · refine PostS.nx_irrel n ?_
    split at q
    · rename_i e; exact absurd e (n _)
    · exact q
theorem sv_one (h1 : SV X C st g) : SVs X C [st] g := pss_one h1
@[simp] def sBreak (ρ : En) : SR := .bk ρ
@[simp] def sCont (ρ : En) : SR := .ct ρ
theorem sv_pass : SV X C (.Pass pos) sNil := PS.imp ps_pass fun D σ H ⟨F, O, ρ, r, q⟩ => q F O σ H .refl r
theorem sv_break : SV X C (.Break pos) sBreak := PS.imp ps_break fun D σ H ⟨F, O, ρ, r, q⟩ => q F O σ H .refl r
theorem sv_cont : SV X C (.Continue pos) sCont := PS.imp ps_continue fun D σ H ⟨F, O, ρ, r, q⟩ => q F O σ H .refl r
@[simp] def RE.toS (r : RE PV) (k : PV → En → SR) : SR := match r with | .ok v ρ => k v ρ | .exc c ρ => .exc c ρ | .bad => .bad
theorem exc_s {K : PySem.W.Frag} {F H : Hp} {O : Own} {σ : L2.St} {D : Ends} {c : Nat} {ρ' : En} (q : PostS K C F H O D σ (.exc c ρ')) : ExcP K C F H O σ c ρ' := fun F' O' H' s' r' => q F' O' σ H' s' r'
@[simp] def sRet (f : En → RE PV) (ρ : En) : SR := (f ρ).toS fun v ρ1 => .ret v ρ1
theorem sv_ret (h : EV X C C.kr e f) : SV X C (.Return (some e) pos) (sRet f) := by
  refine PS.imp (ps_ret h) fun D σ H ⟨F, O, ρ, r, q⟩ => ?_
  unfold sRet at q
  refine tE.bind r (fun v ρ1 F1 O1 H1 x e1 s1 r1 p1 => ?_) (fun c ρ1 e1 => ?_) fun e1 => ?_
  · rw [e1] at q; exact q F1 O1 σ H1 x s1 r1 p1
  · rw [e1] at q; exact exc_s q
  · rw [e1] at q; exact q.elim
@[simp] def sIf (gt : En → RE Bool) (g h : En → SR) (ρ : En) : SR := match gt ρ with | .ok b ρ1 => if b then g ρ1 else h ρ1 | .exc c ρ1 => .exc c ρ1 | .bad => .bad
theorem sv_if {c : Expr} {a b : List Stmt} {gt : En → RE Bool} (hc : TV X C c gt) (ha : SVs X C a g) (hb : SVs X C b h) : SV X C (.If c a b pos) (sIf gt g h) := by
  refine PS.imp (ps_if hc ha hb) fun D σ H ⟨F, O, ρ, r, q⟩ => ?_
  unfold sIf at q
  refine tB'.bind r (fun v ρ1 F1 O1 H1 e1 s1 r1 => ?_) (fun c ρ1 e1 => ?_) fun e1 => ?_
  · rw [e1] at q
    cases v with
    | true => exact ⟨F1, O1, ρ1, r1, PostS.from s1 q⟩
    | false => exact ⟨F1, O1, ρ1, r1, PostS.from s1 q⟩
  · rw [e1] at q; exact exc_s q
  · rw [e1] at q; exact q.elim
/-- name = value -/
@[simp] def sAsg (i : Nat) (f : En → RE PV) (ρ : En) : SR := (f ρ).toS fun v ρ1 => .nx (ρ1.set i (some (.s v)))
@[simp] def sAsgO (i : Nat) (f : En → RE PV) (ρ : En) : SR := (f ρ).toS fun v ρ1 => .nx (ρ1.set i (some (.o v)))
variable {i : Nat} {x : Str} {pos' : Pos}
theorem step_freeO {F H F1 H1 : Hp} {O O1 : Own} (s : Step F H O F1 H1 O1) : Step F H O F1 H1 (freeO O1 i) := s.trans step_free
theorem sv_asg (h : EV X C .sh e f) (hi : i ∉ C.ioS) (hN : X.N.Nodup) (hn : X.N[i]? = some x) (hx : Loc X.env.scope x) (hs : swapsWith e (some (.Name x pos')) pos.line X.env = pure false := by rfl)
    (hf : X.fn x = true ∨ X.env.scope.names.lookup x = some .local := by first | exact .inl rfl | exact .inr rfl | assumption) : SV X C (.Assign [.Name x pos'] e pos) (sAsg i f) := by
  refine PS.imp (ps_set hN hn hx h hs hf) fun D σ H ⟨F, O, ρ, r, q⟩ => ?_
  unfold sAsg at q
  refine tE.bind r (fun v ρ1 F1 O1 H1 y e1 s1 r1 p1 => ?_) (fun c ρ1 e1 => ?_) fun e1 => ?_
  · rw [e1] at q; exact q F1 _ _ H1 (step_freeO s1) (r1.putS hi p1)
  · rw [e1] at q; exact exc_s q
  · rw [e1] at q; exact q.elim
theorem sv_asgO (h : EV X C .fr e f) (hi : i ∉ C.ioS) (hN : X.N.Nodup) (hn : X.N[i]? = some x) (hx : Loc X.env.scope x) (hs : swapsWith e (some (.Name x pos')) pos.line X.env = pure false := by rfl)
    (hf : X.fn x = true ∨ X.env.scope.names.lookup x = some .local := by first | exact .inl rfl | exact .inr rfl | assumption) : SV X C (.Assign [.Name x pos'] e pos) (sAsgO i f) := by
  refine PS.imp (ps_set hN hn hx h hs hf) fun D σ H ⟨F, O, ρ, r, q⟩ => ?_
  unfold sAsgO at q
  refine tE.bind r (fun v ρ1 F1 O1 H1 y e1 s1 r1 p1 => ?_) (fun c ρ1 e1 => ?_) fun e1 => ?_
  · rw [e1] at q
    obtain ⟨a, rfl, fr⟩ := p1
    obtain ⟨s2, r2⟩ := Rel.putO s1 r1 hi fr
    exact q F1 _ _ H1 s2 r2
  · rw [e1] at q; exact exc_s q
  · rw [e1] at q; exact q.elim
/-- an expression alone -/
@[simp] def sExpr (f : En → RE PV) (ρ : En) : SR := (f ρ).toS fun _ ρ1 => .nx ρ1
theorem sv_expr {k : Kd} (h : EV X C k e f) (hs : swapsWith e none pos.line X.env = pure false := by rfl) : SV X C (.Expr e pos) (sExpr f) := by
  refine PS.imp (ps_expr h hs) fun D σ H ⟨F, O, ρ, r, q⟩ => ?_
  unfold sExpr at q
  refine tE.bind r (fun v ρ1 F1 O1 H1 y e1 s1 r1 p1 => ?_) (fun c ρ1 e1 => ?_) fun e1 => ?_
  · rw [e1] at q; exact q F1 O1 σ H1 s1 r1
  · rw [e1] at q; exact exc_s q
  · rw [e1] at q; exact q.elim
/-- while, as often as the fuel lets -/
def sWhile (gt : En → RE Bool) (g : En → SR) : Nat → En → SR
  | 0, _ => .bad
  | n + 1, ρ => match gt ρ with
    | .ok true ρ1 => (match g ρ1 with
      | .nx ρ2 => sWhile gt g n ρ2
      | .ct ρ2 => sWhile gt g n ρ2
      | .bk ρ2 => .nx ρ2
      | r => r)
    | .ok false ρ1 => .nx ρ1
    | .exc c ρ1 => .exc c ρ1
    | .bad => .bad
theorem sv_while {c : Expr} {body : List Stmt} {gt : En → RE Bool} (hp : PassesOwn (model X.prog X.w) X.A X.env X.xe) (hc : TV X C c gt) (hb : SVs X C body g) (n : Nat) : SV X C (.While c body [] pos) (sWhile gt g n) := by
  refine PS.imp (ps_while hp hc hb) fun D σ H ⟨F, O, ρ, r, q⟩ => ?_
  refine ⟨fun m σ1 H1 => ∃ F1 O1 ρ1, Step F H O F1 H1 O1 ∧ Rel X.K C F1 O1 σ1 H1 ρ1 ∧ PostS X.K C F H O D σ (sWhile gt g m ρ1), ⟨n, F, O, ρ, .refl, r, q⟩, ?_⟩
  rintro m σ1 H1 ⟨F1, O1, ρ1, s1, r1, q1⟩
  cases m with
  | zero => exact q1.elim
  | succ m =>
    unfold sWhile at q1
    refine tB'.bind r1 (fun b ρ2 F2 O2 H2 e2 s2 r2 => ?_) (fun c ρ2 e2 => ?_) fun e2 => ?_
    · rw [e2] at q1
      cases b with
      | false => exact q1 F2 O2 σ1 H2 (s1.trans s2) r2
      | true =>
        rw [if_pos rfl]
        refine ⟨fun σ3 H3 => ∃ F3 O3 ρ3, Step F H O F3 H3 O3 ∧ Rel X.K C F3 O3 σ3 H3 ρ3 ∧ PostS X.K C F H O D σ (sWhile gt g m ρ3), fun σ3 H3 z => ⟨m, Nat.lt_succ_self m, z⟩, F2, O2, ρ2, r2, ?_⟩
        simp only at q1
        cases e3 : g ρ2 with
        | nx ρ3 => rw [e3] at q1; exact fun F3 O3 σ3 H3 s3 r3 => ⟨F3, O3, ρ3, (s1.trans s2).trans s3, r3, q1⟩
        | ct ρ3 => rw [e3] at q1; exact fun F3 O3 σ3 H3 s3 r3 => ⟨F3, O3, ρ3, (s1.trans s2).trans s3, r3, q1⟩
        | bk ρ3 => rw [e3] at q1; exact fun F3 O3 σ3 H3 s3 r3 => q1 F3 O3 σ3 H3 ((s1.trans s2).trans s3) r3
        | ret v ρ3 => rw [e3] at q1; exact fun F3 O3 σ3 H3 x s3 r3 p3 => q1 F3 O3 σ3 H3 x ((s1.trans s2).trans s3) r3 (p3.from (s1.trans s2))
        | exc c ρ3 => rw [e3] at q1; exact fun F3 O3 σ3 H3 s3 r3 => q1 F3 O3 σ3 H3 ((s1.trans s2).trans s3) r3
        | bad => rw [e3] at q1; exact q1
    · rw [e2] at q1; exact fun F3 O3 H3 s3 r3 => q1 F3 O3 σ1 H3 (s1.trans s3) r3
    · rw [e2] at q1; exact q1.elim
end
end Fx

/-! part Fw3 -/
namespace Fx
open PySem PySem.Spec PyProof.Rows L2

/-! ### operations on two values -/
@[simp] def eOp (g : PV → PV → Option PV) (f2 : En → RE (PV × PV)) (ρ : En) : RE PV := (f2 ρ).bind fun p ρ1 => match g p.1 p.2 with | some u => .ok u ρ1 | none => .bad
/-- what follows a value that was made -/
def Cont (K : PySem.W.Frag) (C : Cf) (k : Kd) (F H : Hp) (O : Own) (σ : L2.St) (ρ : En) (u : PV) (Q : VK) : Prop := ∀ F' O' H' z, Step F H O F' H' O' → Rel K C F' O' σ H' ρ → ValK K k H O F' O' H' z u → Q z H'
/-- the rule r of a two-place operation answers as g says -/
def Ans2 (K : PySem.W.Frag) (k : Kd) (g : PV → PV → Option PV) (r : R2) : Prop :=
  ∀ (C : Cf) (F H : Hp) (O : Own) (σ : L2.St) (ρ : En) (x y : V) (v w u : PV) (Q : VK), Rel K C F O σ H ρ → RepR K F H x v → RepR K F H y w → g v w = some u → Cont K C k F H O σ ρ u Q → r x y H Q
theorem Cont.now {K : PySem.W.Frag} {C : Cf} {F H : Hp} {O : Own} {σ : L2.St} {ρ : En} {u : PV} {Q : VK} {z : V} (c : Cont K C .sh F H O σ ρ u Q) (r : Rel K C F O σ H ρ) (h : Rep K F z u) : Q z H := c F O H z .refl r h
theorem Cont.from {K : PySem.W.Frag} {C : Cf} {k : Kd} {F H F1 H1 : Hp} {O O1 : Own} {σ : L2.St} {ρ : En} {u : PV} {Q : VK} (s : Step F H O F1 H1 O1) (c : Cont K C k F H O σ ρ u Q) : Cont K C k F1 H1 O1 σ ρ u Q :=
  fun F' O' H' z s' r' h => c F' O' H' z (s.trans s') r' (h.from s)
theorem Cont.tup {K : PySem.W.Frag} {C : Cf} {F H : Hp} {O : Own} {σ : L2.St} {ρ : En} {ds : List PV} {Q : VK} {p : Addr} {o : Obj} {xs : List V} (c : Cont K C .sh F H O σ ρ (.tuple ds) Q) (r : Rel K C F O σ H ρ) (n : H p = none) (hd : o.dict = none) (q : RepA K F xs ds) :
    Q (.ref p) (upd H p (.frz o (.tup xs))) := by
  obtain ⟨F', s', r', h'⟩ := r.newTup n hd q
  exact c F' O _ _ s' r' h'
theorem Cont.lst {K : PySem.W.Frag} {C : Cf} {F H : Hp} {O : Own} {σ : L2.St} {ρ : En} {ds : List PV} {Q : VK} {p : Addr} {xs : List V} (c : Cont K C .fr F H O σ ρ (.list ds) Q) (r : Rel K C F O σ H ρ) (n : H p = none) (q : RepA K F xs ds) : Q (.ref p) (upd H p (.lst xs)) := by
  obtain ⟨s', r', h'⟩ := r.newList n q
  exact c F O _ _ s' r' ⟨p, rfl, h'⟩
theorem Cont.share {K : PySem.W.Frag} {C : Cf} {F H : Hp} {O : Own} {σ : L2.St} {ρ : En} {u : PV} {Q : VK} (c : Cont K C .sh F H O σ ρ u Q) : Cont K C .fr F H O σ ρ u Q := fun F' O' H' z s' r' ⟨a, e, f⟩ => by
  subst e
  obtain ⟨F2, s2, r2, h2, _⟩ := f.share s' r'
  exact c F2 O' H' _ s2 r2 h2
section
variable {X : Cx} {C : Cf} {a b e : Expr} {es : List Expr} {fa fb : En → RE PV} {f2 : En → RE (PV × PV)} {pos : Pos} {k : Kd}
theorem ev_op {op : Operator} {g : PV → PV → Option PV} {r : R2} (ho : OpR X (binaryOp op) r) (an : Ans2 X.K k g r) (h2 : E2 X C a b f2) : EV X C k (.BinOp a op b pos) (eOp g f2) := by
  obtain ⟨ta, tb, ha, hb, h⟩ := h2
  refine PE.imp (pe_op ho ha hb) fun σ H Q ⟨F, O, ρ, r, q⟩ => ?_
  refine h σ H _ ⟨F, O, ρ, r, ?_⟩
  unfold eOp at q
  cases ef : f2 ρ with
  | ok p ρ1 =>
    rw [ef] at q
    simp only [RE.bind] at q
    intro F1 O1 H1 x y s1 r1 px py
    cases eg : g p.1 p.2 with
    | none => rw [eg] at q; exact q.elim
    | some u =>
      rw [eg] at q
      exact an C F1 H1 O1 σ ρ1 x y _ _ u Q r1 px py eg fun F' O' H' z s' r' p' => q F' O' H' z (s1.trans s') r' (p'.from s1)
  | exc c ρ1 => rw [ef] at q; exact q
  | bad => rw [ef] at q; exact q
theorem ev_ixr {g : PV → PV → Option PV} {r : R2} (ho : IxR X r) (an : Ans2 X.K k g r) (h2 : E2 X C a b f2) (hs : PlainIx b) : EV X C k (.Subscript a b pos) (eOp g f2) := by
  obtain ⟨ta, tb, ha, hb, h⟩ := h2
  refine PE.imp (pe_ix ho ha hb hs) fun σ H Q ⟨F, O, ρ, r, q⟩ => ?_
  refine h σ H _ ⟨F, O, ρ, r, ?_⟩
  unfold eOp at q
  cases ef : f2 ρ with
  | ok p ρ1 =>
    rw [ef] at q
    simp only [RE.bind] at q
    intro F1 O1 H1 x y s1 r1 px py
    cases eg : g p.1 p.2 with
    | none => rw [eg] at q; exact q.elim
    | some u =>
      rw [eg] at q
      exact an C F1 H1 O1 σ ρ1 x y _ _ u Q r1 px py eg fun F' O' H' z s' r' p' => q F' O' H' z (s1.trans s') r' (p'.from s1)
  | exc c ρ1 => rw [ef] at q; exact q
  | bad => rw [ef] at q; exact q

/-! ### + - * // % ** -/
def lim : Nat := 16777216
theorem lim_eq : sizeLine = lim := sizeLine_eq
@[simp] def addV : PV → PV → Option PV
  | .int i, .int j => some (.int (i + j))
  | .str x, .str y => if x.length + y.length ≤ 16777216 then some (.str (x ++ y)) else none
  | .tuple xs, .tuple ys => if xs.length + ys.length ≤ 16777216 then some (.tuple (xs ++ ys)) else none
  | .list xs, .list ys => if xs.length + ys.length ≤ 16777216 then some (.list (xs ++ ys)) else none
  | _, _ => none
@[simp] def addL : PV → PV → Option PV
  | .list xs, .list ys => if xs.length + ys.length ≤ 16777216 then some (.list (xs ++ ys)) else none
  | _, _ => none
/-- tuple + tuple, the new one's object told -/
def rCatF (K : PySem.W.Frag) : R2 := fun x y H Q => ∃ a b xs ys, x = .ref a ∧ y = .ref b ∧ SqT K H a xs ∧ SqT K H b ys ∧ xs.length + ys.length ≤ sizeLine ∧
  (xs = [] → Q (.ref b) H) ∧ (xs ≠ [] → ys = [] → Q (.ref a) H) ∧ (xs ≠ [] → ys ≠ [] → ∀ p o, H p = none → o.dict = none → Q (.ref p) (upd H p (.frz o (.tup (xs ++ ys)))))
theorem frz_new {P : Program} {w : World} {H : Hp} {h h' : Heap} {its : List Value} {xs : List V} (hz : xs.length ≤ sizeLine) (r : Vals xs its) (e : h'.get? h.objs.size = some { cls := .type "tuple", data := .seq its.toArray }) :
    ObjOk P w H h' h.objs.size (.frz { cls := .type "tuple", data := .seq its.toArray } (.tup xs)) := ⟨e, hz, its, r, _, e, rfl, _, rfl⟩
theorem op_catF : OpR X (binaryOp .Add) (rCatF X.K) := by
  intro pins s σ H x y v u Q I rx ry h
  obtain ⟨a, b, xs, ys, rfl, rfl, ha, hb, hz, q0, q1, q2⟩ := h
  by_cases hx : xs = []
  · refine op_catA pins s σ H _ _ v u Q I rx ry ⟨a, b, xs, ys, rfl, rfl, ha, hb, hz, q0, fun n => absurd hx n, fun n => absurd hx n⟩
  · by_cases hy : ys = []
    · exact op_catA pins s σ H _ _ v u Q I rx ry ⟨a, b, xs, ys, rfl, rfl, ha, hb, hz, fun n => absurd n hx, q1, fun _ n => absurd hy n⟩
    · cases rx
      cases ry
      obtain ⟨i1, r1, p1, _⟩ := I.tuple ha
      obtain ⟨i2, r2, p2, _⟩ := I.tuple hb
      refine HT.cat_tup p1 p2 (fun z => hx (r1.nil_iff.mp z)) (fun z => absurd (r2.nil_iff.mp z) hy) (fun _ => ?_) (by rw [← r1.length, ← r2.length]; exact hz)
      have hl : (xs ++ ys).length ≤ sizeLine := by rw [List.length_append]; exact hz
      exact ⟨.ref s.heap.objs.size, _, I.laid (t' := s.toks) (fun b ob q => Heap.get?_push_of_some _ q) (Nat.le_refl _) (frz_new hl (r1.append r2) (Heap.get?_push_size _ rfl)), rfl, q2 hx hy _ _ (I.hok.fresh (Nat.le_refl _)) rfl⟩
theorem ans_addL : Ans2 X.K .fr addL rCat := by
  intro C F H O σ ρ x y v w u Q r hx hy hg c
  cases v with
  | list xs =>
    cases w with
    | list ys =>
      simp only [addL] at hg
      split at hg
      · rename_i hz
        cases hg
        obtain ⟨a, vs, rfl, ha, qa⟩ := hx.list r.sub
        obtain ⟨b, ws, rfl, hb, qb⟩ := hy.list r.sub
        exact ⟨a, b, vs, ws, rfl, rfl, ha, hb, by rw [qa.length, qb.length, sizeLine_eq]; exact hz, fun p n => c.lst r n (qa.append qb)⟩
      · cases hg
    | _ => cases hg
  | _ => cases hg
theorem ev_addL (h2 : E2 X C a b f2) : EV X C .fr (.BinOp a .Add b pos) (eOp addL f2) := ev_op op_cat ans_addL h2
theorem ans_add : Ans2 X.K .sh addV (fun x y H Q => (rI0 (fun i j => .int (i + j)) x y H Q) ∨ (∃ i j, x = .str i ∧ y = .str j ∧ i.length + j.length ≤ sizeLine ∧ Q (.str (i ++ j)) H) ∨ rCatF X.K x y H Q ∨ rCat x y H Q) := by
  intro C F H O σ ρ x y v w u Q r hx hy hg c
  cases v with
  | int i =>
    cases w with
    | int j => cases hg; exact .inl ⟨i, j, hx.intE, hy.intE, c.now r (.int _)⟩
    | _ => cases hg
  | str i =>
    cases w with
    | str j =>
      simp only [addV] at hg
      split at hg
      · rename_i hz
        cases hg
        exact .inr (.inl ⟨i, j, hx.strE, hy.strE, by rw [sizeLine_eq]; exact hz, c.now r (.str _)⟩)
      · cases hg
    | _ => cases hg
  | tuple xs =>
    cases w with
    | tuple ys =>
      simp only [addV] at hg
      split at hg
      · rename_i hz
        cases hg
        obtain ⟨a, vs, rfl, ha, qa⟩ := hx.tuple r.sub
        obtain ⟨b, ws, rfl, hb, qb⟩ := hy.tuple r.sub
        refine .inr (.inr (.inl ⟨a, b, vs, ws, rfl, rfl, ha.sq, hb.sq, by rw [qa.length, qb.length, sizeLine_eq]; exact hz, fun e => ?_, fun _ e => ?_, fun _ _ p o n hd => c.tup r n hd (qa.append qb)⟩))
        · subst e
          cases qa
          cases hy with
          | s z => exact c.now r z
          | o z => cases z
        · subst e
          cases qb
          rw [List.append_nil] at c
          cases hx with
          | s z => exact c.now r z
          | o z => cases z
      · cases hg
    | _ => cases hg
  | list xs =>
    cases w with
    | list ys => exact .inr (.inr (.inr (ans_addL (X := X) C F H O σ ρ x y _ _ u Q r hx hy hg c.share)))
    | _ => cases hg
  | _ => cases hg
theorem ev_add (h2 : E2 X C a b f2) : EV X C .sh (.BinOp a .Add b pos) (eOp addV f2) := ev_op (op_add.or (op_add_str.or (op_catF.or op_cat))) ans_add h2
@[simp] def subV : PV → PV → Option PV
  | .int i, .int j => some (.int (i - j))
  | _, _ => none
theorem ev_sub (h2 : E2 X C a b f2) : EV X C .sh (.BinOp a .Sub b pos) (eOp subV f2) := ev_op op_sub (by
  intro C F H O σ ρ x y v w u Q r hx hy hg c
  cases v <;> cases w <;> first | (cases hg; done) | skip
  cases hg
  exact ⟨_, _, hx.intE, hy.intE, c.now r (.int _)⟩) h2
/-- a list times an int, a new list -/
@[simp] def mulL : PV → PV → Option PV
  | .list xs, .int k => if -1000000 ≤ k ∧ k ≤ 1000000 ∧ xs.length * k.toNat ≤ 16777216 then some (.list (List.replicate k.toNat xs).flatten) else none
  | _, _ => none
theorem RepA.rep {K : PySem.W.Frag} {F : Hp} {xs : List V} {ds : List PV} (h : RepA K F xs ds) : ∀ n : Nat, RepA K F (List.replicate n xs).flatten (List.replicate n ds).flatten
  | 0 => .nil
  | n + 1 => by
    rw [List.replicate_succ, List.replicate_succ, List.flatten_cons, List.flatten_cons]
    exact h.append (RepA.rep h n)
theorem ans_mulL : Ans2 X.K .fr mulL rRep := by
  intro C F H O σ ρ x y v w u Q r hx hy hg c
  cases v with
  | list xs =>
    cases w with
    | int k =>
      simp only [mulL] at hg
      split at hg
      · rename_i hz
        cases hg
        obtain ⟨a, vs, rfl, ha, qa⟩ := hx.list r.sub
        exact ⟨a, k, vs, rfl, hy.intE, ha, by omega, by omega, by rw [qa.length, sizeLine_eq]; exact hz.2.2, fun p n => c.lst r n (qa.rep k.toNat)⟩
      · cases hg
    | _ => cases hg
  | _ => cases hg
theorem ev_mulL (h2 : E2 X C a b f2) : EV X C .fr (.BinOp a .Mult b pos) (eOp mulL f2) := ev_op op_rep ans_mulL h2
@[simp] def mulV : PV → PV → Option PV
  | .int i, .int j => if (-18446744073709551616 < i ∧ i < 18446744073709551616) ∨ (-18446744073709551616 < j ∧ j < 18446744073709551616) then some (.int (i * j)) else none
  | _, _ => none
theorem ev_mul (h2 : E2 X C a b f2) : EV X C .sh (.BinOp a .Mult b pos) (eOp mulV f2) := ev_op op_mul (by
  intro C F H O σ ρ x y v w u Q r hx hy hg c
  cases v <;> cases w <;> first | (cases hg; done) | skip
  simp only [mulV] at hg
  split at hg
  · rename_i hz
    cases hg
    exact ⟨_, _, hx.intE, hy.intE, hz, c.now r (.int _)⟩
  · cases hg) h2
@[simp] def divV : PV → PV → Option PV
  | .int i, .int j => if 0 < j ∧ j < 18446744073709551616 then some (.int (i / j)) else none
  | _, _ => none
theorem ev_div (h2 : E2 X C a b f2) : EV X C .sh (.BinOp a .FloorDiv b pos) (eOp divV f2) := ev_op op_fdivW (by
  intro C F H O σ ρ x y v w u Q r hx hy hg c
  cases v <;> cases w <;> first | (cases hg; done) | skip
  rename_i i j
  simp only [divV] at hg
  split at hg
  · rename_i hz
    cases hg
    exact ⟨_, _, hx.intE, hy.intE, wide_div (b := 64) hz.1 (by omega) (by decide) (by decide), c.now r (.int _)⟩
  · cases hg) h2
@[simp] def modV : PV → PV → Option PV
  | .int i, .int j => if 0 < j then some (.int (i % j)) else none
  | _, _ => none
theorem ev_mod (h2 : E2 X C a b f2) : EV X C .sh (.BinOp a .Mod b pos) (eOp modV f2) := ev_op op_mod (by
  intro C F H O σ ρ x y v w u Q r hx hy hg c
  cases v <;> cases w <;> first | (cases hg; done) | skip
  simp only [modV] at hg
  split at hg
  · rename_i hz
    cases hg
    exact ⟨_, _, hx.intE, hy.intE, hz, c.now r (.int _)⟩
  · cases hg) h2
@[simp] def powV : PV → PV → Option PV
  | .int i, .int j => if 0 ≤ j ∧ j ≤ 1000 ∧ -1000000 < i ∧ i < 1000000 then some (.int (i ^ j.toNat)) else none
  | _, _ => none
theorem ev_pow (h2 : E2 X C a b f2) : EV X C .sh (.BinOp a .Pow b pos) (eOp powV f2) := ev_op op_pow (by
  intro C F H O σ ρ x y v w u Q r hx hy hg c
  cases v <;> cases w <;> first | (cases hg; done) | skip
  simp only [powV] at hg
  split at hg
  · rename_i hz
    cases hg
    exact ⟨_, _, hx.intE, hy.intE, ⟨hz.1, by omega, by omega⟩, c.now r (.int _)⟩
  · cases hg) h2
/-- -n -/
@[simp] def eNeg (fa : En → RE PV) (ρ : En) : RE PV := (fa ρ).bind fun v ρ1 => match v with | .int i => .ok (.int (-i)) ρ1 | _ => .bad
theorem ev_neg (ha : EV X C .sh a fa) : EV X C .sh (.UnaryOp .USub a pos) (eNeg fa) := by
  refine PE.imp (pe_un un_neg ha) fun σ H Q ⟨F, O, ρ, r, q⟩ => ?_
  unfold eNeg at q
  refine tE.bind r (fun v ρ1 F1 O1 H1 x e1 s1 r1 p1 => ?_) (fun c ρ1 e1 => ?_) fun e1 => ?_
  · rw [e1] at q
    simp only [RE.bind] at q
    have p1 : Rep X.K F1 x v := p1
    split at q
    · cases p1; exact ⟨_, rfl, q F1 O1 H1 _ s1 r1 (.int _)⟩
    · exact q.elim
  · rw [e1] at q; exact q
  · rw [e1] at q; exact q.elim

/-! ### an item -/
theorem RepA.atI {K : PySem.W.Frag} {F : Hp} {xs : List V} {ds : List PV} {i : Int} {p : PV} (h : RepA K F xs ds) (e : L2.atI ds i = some p) : ∃ x, L2.atI xs i = some x ∧ Rep K F x p := by
  unfold L2.atI at e ⊢
  rw [h.length]
  cases q : ixN ds.length i with
  | none => rw [q] at e; cases e
  | some j =>
    rw [q] at e
    exact h.get (show ds[j]? = some p from e)
@[simp] def idxV : PV → PV → Option PV
  | .list xs, .int i => L2.atI xs i
  | .tuple xs, .int i => L2.atI xs i
  | .dict [(.none, .list xs)], .int i => L2.atI xs i
  | .str z, .int i => if z.length ≤ 16777216 then (L2.atI z.cps.toList i).map fun c => .str ⟨#[c]⟩ else none
  | _, _ => none
theorem RepR.scrE {K : PySem.W.Frag} {F H : Hp} {v : V} {ds : List PV} (e : Same F H) (h : RepR K F H v (.dict [(.none, .list ds)])) : ∃ a vs, v = .ref a ∧ SqL K H a vs ∧ RepA K F vs ds := by
  generalize hp : PyData.dict [(.none, .list ds)] = p at h
  cases h with
  | s r =>
    cases r with
    | scr q t => cases hp; exact ⟨_, _, rfl, e.seq q, t⟩
    | dK q t =>
      cases hp
      obtain ⟨kk, he⟩ := t.key _ List.mem_cons_self
      cases kk <;> cases he
    | _ => cases hp
  | o r =>
    cases r with
    | lst => cases hp
    | dK q t =>
      cases hp
      obtain ⟨kk, he⟩ := t.key _ List.mem_cons_self
      cases kk <;> cases he
theorem ans_idx : Ans2 X.K .sh idxV (rIx X.K) := by
  intro C F H O σ ρ x y v w u Q r hx hy hg c
  unfold idxV at hg
  split at hg
  · obtain ⟨a, vs, rfl, ha, qa⟩ := hx.list r.sub
    obtain ⟨z, h1, h2⟩ := qa.atI hg
    exact .inl ⟨a, vs, _, z, rfl, hy.intE, .of ha, h1, c.now r h2⟩
  · obtain ⟨a, vs, rfl, ha, qa⟩ := hx.tuple r.sub
    obtain ⟨z, h1, h2⟩ := qa.atI hg
    exact .inr (.inl ⟨a, vs, _, z, rfl, hy.intE, ha.sq, h1, c.now r h2⟩)
  · obtain ⟨a, vs, rfl, ha, qa⟩ := hx.scrE r.sub
    obtain ⟨z, h1, h2⟩ := qa.atI hg
    exact .inl ⟨a, vs, _, z, rfl, hy.intE, ha, h1, c.now r h2⟩
  · split at hg
    · rename_i z i hz
      cases q : L2.atI z.cps.toList i with
      | none => rw [q] at hg; cases hg
      | some cc =>
        rw [q] at hg
        cases hg
        exact .inr (.inr ⟨z, i, cc, hx.strE, hy.intE, by rw [sizeLine_eq]; exact hz, q, c.now r (.str _)⟩)
    · cases hg
  · cases hg
theorem ev_ix (h2 : E2 X C a b f2) (hs : PlainIx b := by exact fun _ _ => rfl) : EV X C .sh (.Subscript a b pos) (eOp idxV f2) := ev_ixr ix_seq ans_idx h2 hs

/-! ### displays -/
@[simp] def eTup (fa : En → RE (List PV)) (ρ : En) : RE PV := (fa ρ).bind fun vs ρ1 => if vs.length ≤ 16777216 then .ok (.tuple vs) ρ1 else .bad
@[simp] def eLst (fa : En → RE (List PV)) (ρ : En) : RE PV := (fa ρ).bind fun vs ρ1 => if vs.length ≤ 16777216 then .ok (.list vs) ρ1 else .bad
def tTupF (t : TA) : TE := fun σ H Q => t σ H fun xs H1 => xs.length ≤ sizeLine ∧ ∀ p o, H1 p = none → o.dict = none → Q (.ref p) (upd H1 p (.frz o (.tup xs)))
theorem pe_tupF {x1} {t : TA} (h : PA X es t) : PE X (.Tuple es x1 pos) (tTupF t) := by
  refine ⟨fun pins s σ H Q I hq => ?_⟩
  refine wpAny_Tuple_spliced (thn (h.run pos pins s σ H _ I hq) fun us s1 ⟨xs, H1, I1, r, z, q⟩ => ⟨by rw [← r.length]; exact z, ?_⟩)
  exact ⟨.ref s1.heap.objs.size, _, I1.laid (t' := s1.toks) (fun b u e => Heap.get?_push_of_some _ e) (Nat.le_refl _) (frz_new z r (Heap.get?_push_size _ rfl)), rfl, q _ _ (I1.hok.fresh (Nat.le_refl _)) rfl⟩
theorem ev_tup {x1} {fa : En → RE (List PV)} (h : AV X C .sh es fa) : EV X C .sh (.Tuple es x1 pos) (eTup fa) := by
  refine PE.imp (pe_tupF h) fun σ H Q ⟨F, O, ρ, r, q⟩ => ?_
  unfold eTup at q
  refine tA.bind r (fun v ρ1 F1 O1 H1 x e1 s1 r1 p1 => ?_) (fun c ρ1 e1 => ?_) fun e1 => ?_
  · rw [e1] at q
    simp only [RE.bind] at q
    split at q
    · rename_i hz
      refine ⟨by rw [RepA.length p1, sizeLine_eq]; exact hz, fun p o n hd => ?_⟩
      obtain ⟨F', s', r', h'⟩ := r1.newTup n hd p1
      exact q F' O1 _ _ (s1.trans s') r' h'
    · exact q.elim
  · rw [e1] at q; exact q
  · rw [e1] at q; exact q.elim
theorem ev_lst {fa : En → RE (List PV)} (h : AV X C .sh es fa) : EV X C .fr (.List es pos) (eLst fa) := by
  refine PE.imp (pe_lst h) fun σ H Q ⟨F, O, ρ, r, q⟩ => ?_
  unfold eLst at q
  refine tA.bind r (fun v ρ1 F1 O1 H1 x e1 s1 r1 p1 => ?_) (fun c ρ1 e1 => ?_) fun e1 => ?_
  · rw [e1] at q
    simp only [RE.bind] at q
    split at q
    · rename_i hz
      refine ⟨by rw [RepA.length p1, sizeLine_eq]; exact hz, fun p n => ?_⟩
      obtain ⟨s', r', h'⟩ := r1.newList n p1
      exact q F1 O1 _ _ (s1.trans s') r' ⟨p, rfl, h'.from s1⟩
    · exact q.elim
  · rw [e1] at q; exact q
  · rw [e1] at q; exact q.elim

/-! ### calls of built-ins by values -/
def AnsA (K : PySem.W.Frag) (k : Kd) (md : Kd) (g : List PV → Option PV) (r : List V → Hp → VK → Prop) : Prop :=
  ∀ (C : Cf) (F H : Hp) (O : Own) (σ : L2.St) (ρ : En) (xs : List V) (vs : List PV) (u : PV) (Q : VK), Rel K C F O σ H ρ → ArgK K md F H xs vs → g vs = some u → Cont K C k F H O σ ρ u Q → r xs H Q
@[simp] def eCal (g : List PV → Option PV) (fa : En → RE (List PV)) (ρ : En) : RE PV := (fa ρ).bind fun vs ρ1 => match g vs with | some u => .ok u ρ1 | none => .bad
theorem call_ans {md : Kd} {g : List PV → Option PV} {r : List V → Hp → VK → Prop} {fa : En → RE (List PV)} (an : AnsA X.K k md g r) {σ : L2.St} {H : Hp} {Q : VK} (h : tE X.K C k (eCal g fa) σ H Q) : tCB r (tA X.K C md fa) σ H Q := by
  obtain ⟨F, O, ρ, r, q⟩ := h
  unfold eCal at q
  refine tA.bind r (fun v ρ1 F1 O1 H1 x e1 s1 r1 p1 => ?_) (fun c ρ1 e1 => ?_) fun e1 => ?_
  · rw [e1] at q
    simp only [RE.bind] at q
    cases eg : g v with
    | none => rw [eg] at q; exact q.elim
    | some u =>
      rw [eg] at q
      exact an C F1 H1 O1 σ ρ1 x v u Q r1 p1 eg fun F' O' H' z s' r' p' => q F' O' H' z (s1.trans s') r' (p'.from s1)
  · rw [e1] at q; exact q
  · rw [e1] at q; exact q.elim
variable {x : Str} {p : Pos}
theorem ev_callB {id : String} {md : Kd} {g : List PV → Option PV} {r : List V → Hp → VK → Prop} {fa : En → RE (List PV)} (hc : CallR X (.builtin id) r) (an : AnsA X.K k md g r) (hg : Gl X x) (hm : X.mg x = none) (hv : bootBuiltins x = some (.builtin id)) (ha : AV X C md (e :: es) fa)
    (hn : x ≠ "__name__" := by decide) (hdb : (x == ("__debug__" : Str)) = false := by decide)
    (he : starEach (e :: es) X.env = (false, eval e X.env) :: starEach es X.env := by rfl) (hpl : (backTo pos (starEach es X.env)).any (·.1) = false := by rfl) : EV X C k (.Call (.Name x p) (e :: es) [] pos) (eCal g fa) :=
  PE.imp (pe_callB hc hg hm hv ha hn hdb he hpl) fun _ _ _ h => call_ans an h
theorem ev_callTy {T : String} {md : Kd} {g : List PV → Option PV} {r : List V → Hp → VK → Prop} {fa : En → RE (List PV)} (hc : CallR X (.type T) r) (an : AnsA X.K k md g r) (hg : Gl X x) (hm : X.mg x = none) (hv : bootBuiltins x = some (.type T)) (ha : AV X C md (e :: es) fa)
    (hn : x ≠ "__name__" := by decide) (hdb : (x == ("__debug__" : Str)) = false := by decide)
    (he : starEach (e :: es) X.env = (false, eval e X.env) :: starEach es X.env := by rfl) (hpl : (backTo pos (starEach es X.env)).any (·.1) = false := by rfl) : EV X C k (.Call (.Name x p) (e :: es) [] pos) (eCal g fa) :=
  PE.imp (pe_callTy hc hg hm hv ha hn hdb he hpl) fun _ _ _ h => call_ans an h
theorem RepRA.one {K : PySem.W.Frag} {F H : Hp} {xs : List V} {v : PV} (h : RepRA K F H xs [v]) : ∃ x, xs = [x] ∧ RepR K F H x v := by
  cases h with | cons a b => cases b; exact ⟨_, rfl, a⟩
theorem RepRA.two {K : PySem.W.Frag} {F H : Hp} {xs : List V} {v w : PV} (h : RepRA K F H xs [v, w]) : ∃ x y, xs = [x, y] ∧ RepR K F H x v ∧ RepR K F H y w := by
  cases h with | cons a b => cases b with | cons b c => cases c; exact ⟨_, _, rfl, a, b⟩
@[simp] def lenV : List PV → Option PV
  | [.list xs] => some (.int xs.length)
  | [.tuple xs] => some (.int xs.length)
  | [.dict [(.none, .list xs)]] => some (.int xs.length)
  | [.str z] => if z.length ≤ 16777216 then some (.int z.length) else none
  | _ => none
theorem ans_len : AnsA X.K .sh .rd lenV (fun xs H Q => ∃ x n, xs = [x] ∧ LenV X.K x H n ∧ Q (.int n) H) := by
  intro C F H O σ ρ xs vs u Q r h hg c
  have h : RepRA X.K F H xs vs := h
  unfold lenV at hg
  split at hg
  · cases hg
    obtain ⟨x, rfl, hx⟩ := h.one
    obtain ⟨a, ws, rfl, ha, qa⟩ := hx.list r.sub
    exact ⟨_, _, rfl, .inl ⟨ws, .of ha, qa.length.symm⟩, c.now r (.int _)⟩
  · cases hg
    obtain ⟨x, rfl, hx⟩ := h.one
    obtain ⟨a, ws, rfl, ha, qa⟩ := hx.tuple r.sub
    exact ⟨_, _, rfl, .inr ⟨ws, ha.sq, qa.length.symm⟩, c.now r (.int _)⟩
  · cases hg
    obtain ⟨x, rfl, hx⟩ := h.one
    obtain ⟨a, ws, rfl, ha, qa⟩ := hx.scrE r.sub
    exact ⟨_, _, rfl, .inl ⟨ws, ha, qa.length.symm⟩, c.now r (.int _)⟩
  · obtain ⟨x, rfl, hx⟩ := h.one
    split at hg
    · rename_i hz
      cases hg
      have e := hx.strE
      subst e
      exact ⟨_, _, rfl, ⟨by rw [sizeLine_eq]; exact hz, rfl⟩, c.now r (.int _)⟩
    · cases hg
  · cases hg
theorem ev_len {fa : En → RE (List PV)} (hg : Gl X "len") (hm : X.mg "len" = none) (ha : AV X C .rd [e] fa)
    (he : starEach [e] X.env = (false, eval e X.env) :: starEach [] X.env := by rfl) : EV X C .sh (.Call (.Name "len" p) [e] [] pos) (eCal lenV fa) := ev_callB call_len ans_len hg hm PySem.boot_len ha (he := he)
@[simp] def absV : List PV → Option PV
  | [.int i] => some (.int (if i < 0 then -i else i))
  | _ => none
theorem ev_abs {fa : En → RE (List PV)} (hg : Gl X "abs") (hm : X.mg "abs" = none) (ha : AV X C .rd [e] fa)
    (he : starEach [e] X.env = (false, eval e X.env) :: starEach [] X.env := by rfl) : EV X C .sh (.Call (.Name "abs" p) [e] [] pos) (eCal absV fa) := ev_callB call_abs (by
  intro C F H O σ ρ xs vs u Q r h hg c
  have h : RepRA X.K F H xs vs := h
  unfold absV at hg
  split at hg
  · cases hg
    obtain ⟨x, rfl, hx⟩ := h.one
    exact ⟨_, by rw [hx.intE], c.now r (.int _)⟩
  · cases hg) hg hm (by decide +kernel) ha (he := he)
@[simp] def max2V : List PV → Option PV
  | [.int i, .int j] => some (.int (if j > i then j else i))
  | _ => none
@[simp] def min2V : List PV → Option PV
  | [.int i, .int j] => some (.int (if j < i then j else i))
  | _ => none
theorem ev_max2 {e2 : Expr} {fa : En → RE (List PV)} (hc : X.calm = true) (hg : Gl X "max") (hm : X.mg "max" = none) (ha : AV X C .rd [e, e2] fa)
    (he : starEach [e, e2] X.env = (false, eval e X.env) :: starEach [e2] X.env := by rfl) (hpl : (backTo pos (starEach [e2] X.env)).any (·.1) = false := by rfl) : EV X C .sh (.Call (.Name "max" p) [e, e2] [] pos) (eCal max2V fa) := ev_callB (call_max2 hc) (by
  intro C F H O σ ρ xs vs u Q r h hg c
  have h : RepRA X.K F H xs vs := h
  unfold max2V at hg
  split at hg
  · cases hg
    obtain ⟨x, y, rfl, hx, hy⟩ := h.two
    exact ⟨_, _, by rw [hx.intE, hy.intE], c.now r (.int _)⟩
  · cases hg) hg hm (by decide +kernel) ha (he := he) (hpl := hpl)
theorem ev_min2 {e2 : Expr} {fa : En → RE (List PV)} (hc : X.calm = true) (hg : Gl X "min") (hm : X.mg "min" = none) (ha : AV X C .rd [e, e2] fa)
    (he : starEach [e, e2] X.env = (false, eval e X.env) :: starEach [e2] X.env := by rfl) (hpl : (backTo pos (starEach [e2] X.env)).any (·.1) = false := by rfl) : EV X C .sh (.Call (.Name "min" p) [e, e2] [] pos) (eCal min2V fa) := ev_callB (call_min2 hc) (by
  intro C F H O σ ρ xs vs u Q r h hg c
  have h : RepRA X.K F H xs vs := h
  unfold min2V at hg
  split at hg
  · cases hg
    obtain ⟨x, y, rfl, hx, hy⟩ := h.two
    exact ⟨_, _, by rw [hx.intE, hy.intE], c.now r (.int _)⟩
  · cases hg) hg hm (by decide +kernel) ha (he := he) (hpl := hpl)
/-! ### lists of one kind -/
@[simp] def intsOf : List PV → Option (List Int)
  | [] => some []
  | .int i :: r => (intsOf r).map (i :: ·)
  | _ => none
@[simp] def boolsOf : List PV → Option (List Bool)
  | [] => some []
  | .bool i :: r => (boolsOf r).map (i :: ·)
  | _ => none
theorem RepA.ints {K : PySem.W.Frag} {F : Hp} : ∀ {xs : List V} {ds : List PV} {ns : List Int}, RepA K F xs ds → intsOf ds = some ns → xs = ns.map V.int ∧ ds = ns.map PyData.int
  | _, _, ns, .nil, h => by cases h; exact ⟨rfl, rfl⟩
  | _, _, ns, .cons (d := d) (ds := ds) hd hr, h => by
    cases hd with
    | int i =>
      simp only [intsOf] at h
      cases q : intsOf ds with
      | none => rw [q] at h; cases h
      | some ms =>
        rw [q] at h
        cases h
        obtain ⟨e1, e2⟩ := RepA.ints hr q
        exact ⟨by rw [e1, List.map_cons], by rw [e2, List.map_cons]⟩
    | _ => cases h
theorem RepA.bools {K : PySem.W.Frag} {F : Hp} : ∀ {xs : List V} {ds : List PV} {ns : List Bool}, RepA K F xs ds → boolsOf ds = some ns → xs = ns.map V.bl ∧ ds = ns.map PyData.bool
  | _, _, ns, .nil, h => by cases h; exact ⟨rfl, rfl⟩
  | _, _, ns, .cons (d := d) (ds := ds) hd hr, h => by
    cases hd with
    | bl i =>
      simp only [boolsOf] at h
      cases q : boolsOf ds with
      | none => rw [q] at h; cases h
      | some ms =>
        rw [q] at h
        cases h
        obtain ⟨e1, e2⟩ := RepA.bools hr q
        exact ⟨by rw [e1, List.map_cons], by rw [e2, List.map_cons]⟩
    | _ => cases h
@[simp] theorem intsOf_map (ns : List Int) : intsOf (ns.map PyData.int) = some ns := by
  induction ns with
  | nil => rfl
  | cons n r ih => simp [ih]
@[simp] theorem boolsOf_map (ns : List Bool) : boolsOf (ns.map PyData.bool) = some ns := by
  induction ns with
  | nil => rfl
  | cons n r ih => simp [ih]
theorem RepA.ofInts {K : PySem.W.Frag} {F : Hp} : ∀ (ns : List Int), RepA K F (ns.map V.int) (ns.map PyData.int)
  | [] => .nil
  | n :: r => .cons (.int n) (RepA.ofInts r)
def allV : List PV → Option PV
  | [.list ds] => (boolsOf ds).map fun bs => .bool (bs.all id)
  | _ => none
def anyV : List PV → Option PV
  | [.list ds] => (boolsOf ds).map fun bs => .bool (bs.any id)
  | _ => none
def sumV : List PV → Option PV
  | [.list ds] => (intsOf ds).map fun ns => .int ns.sum
  | _ => none
def maxI : List Int → Option Int
  | [] => none
  | n :: r => some (r.foldl max n)
def minI : List Int → Option Int
  | [] => none
  | n :: r => some (r.foldl min n)
theorem foldl_max_le : ∀ (r : List Int) (n : Int), n ≤ r.foldl max n ∧ ∀ y ∈ r, y ≤ r.foldl max n
  | [], n => ⟨Int.le_refl _, fun _ h => nomatch h⟩
  | a :: r, n => by
    obtain ⟨h1, h2⟩ := foldl_max_le r (max n a)
    refine ⟨by show n ≤ r.foldl max (max n a); omega, fun y hy => ?_⟩
    rcases List.mem_cons.mp hy with e | hy
    · subst e; show y ≤ r.foldl max (max n y); omega
    · exact h2 y hy
theorem foldl_max_mem : ∀ (r : List Int) (n : Int), r.foldl max n = n ∨ r.foldl max n ∈ r
  | [], n => .inl rfl
  | a :: r, n => by
    rcases foldl_max_mem r (max n a) with h | h
    · show r.foldl max (max n a) = n ∨ r.foldl max (max n a) ∈ a :: r
      rw [h]
      by_cases q : n ≤ a
      · exact .inr (by rw [Int.max_eq_right q]; exact List.mem_cons_self)
      · exact .inl (Int.max_eq_left (by omega))
    · exact .inr (List.mem_cons_of_mem _ h)
theorem foldl_min_le : ∀ (r : List Int) (n : Int), r.foldl min n ≤ n ∧ ∀ y ∈ r, r.foldl min n ≤ y
  | [], n => ⟨Int.le_refl _, fun _ h => nomatch h⟩
  | a :: r, n => by
    obtain ⟨h1, h2⟩ := foldl_min_le r (min n a)
    refine ⟨by show r.foldl min (min n a) ≤ n; omega, fun y hy => ?_⟩
    rcases List.mem_cons.mp hy with e | hy
    · subst e; show r.foldl min (min n y) ≤ y; omega
    · exact h2 y hy
theorem foldl_min_mem : ∀ (r : List Int) (n : Int), r.foldl min n = n ∨ r.foldl min n ∈ r
  | [], n => .inl rfl
  | a :: r, n => by
    rcases foldl_min_mem r (min n a) with h | h
    · show r.foldl min (min n a) = n ∨ r.foldl min (min n a) ∈ a :: r
      rw [h]
      by_cases q : n ≤ a
      · exact .inl (Int.min_eq_left q)
      · exact .inr (by rw [Int.min_eq_right (by omega)]; exact List.mem_cons_self)
    · exact .inr (List.mem_cons_of_mem _ h)
theorem maxI_uniq {ns : List Int} {m m' : Int} (h : maxI ns = some m) (h1 : m' ∈ ns) (h2 : ∀ y ∈ ns, y ≤ m') : m' = m := by
  cases ns with
  | nil => cases h
  | cons n r =>
    cases h
    obtain ⟨a, b⟩ := foldl_max_le r n
    have h3 : r.foldl max n ≤ m' := by
      rcases foldl_max_mem r n with q | q
      · rw [q]; exact h2 n List.mem_cons_self
      · exact h2 _ (List.mem_cons_of_mem _ q)
    rcases List.mem_cons.mp h1 with e | e
    · subst e; omega
    · have := b m' e; omega
theorem minI_uniq {ns : List Int} {m m' : Int} (h : minI ns = some m) (h1 : m' ∈ ns) (h2 : ∀ y ∈ ns, m' ≤ y) : m' = m := by
  cases ns with
  | nil => cases h
  | cons n r =>
    cases h
    obtain ⟨a, b⟩ := foldl_min_le r n
    have h3 : m' ≤ r.foldl min n := by
      rcases foldl_min_mem r n with q | q
      · rw [q]; exact h2 n List.mem_cons_self
      · exact h2 _ (List.mem_cons_of_mem _ q)
    rcases List.mem_cons.mp h1 with e | e
    · subst e; omega
    · have := b m' e; omega
def maxV : List PV → Option PV
  | [.list ds] => ((intsOf ds).bind maxI).map PyData.int
  | _ => none
def minV : List PV → Option PV
  | [.list ds] => ((intsOf ds).bind minI).map PyData.int
  | _ => none
theorem ev_all {fa : En → RE (List PV)} (hc : X.calm = true) (hg : Gl X "all") (hm : X.mg "all" = none) (ha : AV X C .rd [e] fa)
    (he : starEach [e] X.env = (false, eval e X.env) :: starEach [] X.env := by rfl) : EV X C .sh (.Call (.Name "all" p) [e] [] pos) (eCal allV fa) := ev_callB (cr_all hc) (by
  intro C F H O σ ρ xs vs u Q r h hg c
  have h : RepRA X.K F H xs vs := h
  unfold allV at hg
  split at hg
  · rename_i ds _
    cases q : boolsOf ds with
    | none => rw [q] at hg; cases hg
    | some bs =>
      rw [q] at hg
      cases hg
      obtain ⟨x, rfl, hx⟩ := h.one
      obtain ⟨a, ws, rfl, ha, qa⟩ := hx.list r.sub
      obtain ⟨e1, _⟩ := qa.bools q
      subst e1
      exact ⟨a, bs, rfl, .of ha, c.now r (.bl _)⟩
  · cases hg) hg hm (by decide +kernel) ha (he := he)
theorem ev_any {fa : En → RE (List PV)} (hc : X.calm = true) (hg : Gl X "any") (hm : X.mg "any" = none) (ha : AV X C .rd [e] fa)
    (he : starEach [e] X.env = (false, eval e X.env) :: starEach [] X.env := by rfl) : EV X C .sh (.Call (.Name "any" p) [e] [] pos) (eCal anyV fa) := ev_callB (cr_any hc) (by
  intro C F H O σ ρ xs vs u Q r h hg c
  have h : RepRA X.K F H xs vs := h
  unfold anyV at hg
  split at hg
  · rename_i ds _
    cases q : boolsOf ds with
    | none => rw [q] at hg; cases hg
    | some bs =>
      rw [q] at hg
      cases hg
      obtain ⟨x, rfl, hx⟩ := h.one
      obtain ⟨a, ws, rfl, ha, qa⟩ := hx.list r.sub
      obtain ⟨e1, _⟩ := qa.bools q
      subst e1
      exact ⟨a, bs, rfl, .of ha, c.now r (.bl _)⟩
  · cases hg) hg hm (by decide +kernel) ha (he := he)
theorem ev_sum {fa : En → RE (List PV)} (hc : X.calm = true) (hg : Gl X "sum") (hm : X.mg "sum" = none) (ha : AV X C .rd [e] fa)
    (he : starEach [e] X.env = (false, eval e X.env) :: starEach [] X.env := by rfl) : EV X C .sh (.Call (.Name "sum" p) [e] [] pos) (eCal sumV fa) := ev_callB (cr_sum hc) (by
  intro C F H O σ ρ xs vs u Q r h hg c
  have h : RepRA X.K F H xs vs := h
  unfold sumV at hg
  split at hg
  · rename_i ds _
    cases q : intsOf ds with
    | none => rw [q] at hg; cases hg
    | some bs =>
      rw [q] at hg
      cases hg
      obtain ⟨x, rfl, hx⟩ := h.one
      obtain ⟨a, ws, rfl, ha, qa⟩ := hx.list r.sub
      obtain ⟨e1, _⟩ := qa.ints q
      subst e1
      exact ⟨a, bs, rfl, .of ha, c.now r (.int _)⟩
  · cases hg) hg hm (by decide +kernel) ha (he := he)
theorem ev_max {fa : En → RE (List PV)} (hc : X.calm = true) (hg : Gl X "max") (hm : X.mg "max" = none) (ha : AV X C .rd [e] fa)
    (he : starEach [e] X.env = (false, eval e X.env) :: starEach [] X.env := by rfl) : EV X C .sh (.Call (.Name "max" p) [e] [] pos) (eCal maxV fa) := ev_callB (cr_max hc) (by
  intro C F H O σ ρ xs vs u Q r h hg c
  have h : RepRA X.K F H xs vs := h
  unfold maxV at hg
  split at hg
  · rename_i ds _
    cases q : intsOf ds with
    | none => rw [q] at hg; cases hg
    | some ns =>
      rw [q] at hg
      simp only [Option.bind_some] at hg
      cases qm : maxI ns with
      | none => rw [qm] at hg; cases hg
      | some m =>
        rw [qm] at hg
        cases hg
        obtain ⟨x, rfl, hx⟩ := h.one
        obtain ⟨a, ws, rfl, ha, qa⟩ := hx.list r.sub
        obtain ⟨e1, _⟩ := qa.ints q
        subst e1
        refine ⟨a, ns, rfl, .of ha, ?_, fun m' h1 h2 => ?_⟩
        · cases ns with
          | nil => cases qm
          | cons => exact Nat.succ_pos _
        · rw [maxI_uniq qm h1 h2]; exact c.now r (.int _)
  · cases hg) hg hm (by decide +kernel) ha (he := he)
theorem ev_min {fa : En → RE (List PV)} (hc : X.calm = true) (hg : Gl X "min") (hm : X.mg "min" = none) (ha : AV X C .rd [e] fa)
    (he : starEach [e] X.env = (false, eval e X.env) :: starEach [] X.env := by rfl) : EV X C .sh (.Call (.Name "min" p) [e] [] pos) (eCal minV fa) := ev_callB (cr_min hc) (by
  intro C F H O σ ρ xs vs u Q r h hg c
  have h : RepRA X.K F H xs vs := h
  unfold minV at hg
  split at hg
  · rename_i ds _
    cases q : intsOf ds with
    | none => rw [q] at hg; cases hg
    | some ns =>
      rw [q] at hg
      simp only [Option.bind_some] at hg
      cases qm : minI ns with
      | none => rw [qm] at hg; cases hg
      | some m =>
        rw [qm] at hg
        cases hg
        obtain ⟨x, rfl, hx⟩ := h.one
        obtain ⟨a, ws, rfl, ha, qa⟩ := hx.list r.sub
        obtain ⟨e1, _⟩ := qa.ints q
        subst e1
        refine ⟨a, ns, rfl, .of ha, ?_, fun m' h1 h2 => ?_⟩
        · cases ns with
          | nil => cases qm
          | cons => exact Nat.succ_pos _
        · rw [minI_uniq qm h1 h2]; exact c.now r (.int _)
  · cases hg) hg hm (by decide +kernel) ha (he := he)
/-! ### list(..), tuple(..) -/
@[simp] def listV : List PV → Option PV
  | [.list xs] => some (.list xs)
  | [.tuple xs] => some (.list xs)
  | _ => none
theorem ev_list {fa : En → RE (List PV)} (hg : Gl X "list") (hm : X.mg "list" = none) (ha : AV X C .rd [e] fa)
    (he : starEach [e] X.env = (false, eval e X.env) :: starEach [] X.env := by rfl) : EV X C .fr (.Call (.Name "list" p) [e] [] pos) (eCal listV fa) := ev_callTy call_list_of (by
  intro C F H O σ ρ xs vs u Q r h hg c
  have h : RepRA X.K F H xs vs := h
  unfold listV at hg
  split at hg
  · cases hg
    obtain ⟨x, rfl, hx⟩ := h.one
    obtain ⟨a, ws, rfl, ha, qa⟩ := hx.list r.sub
    exact ⟨a, ws, rfl, .inl (.of ha), fun l n => c.lst r n qa⟩
  · cases hg
    obtain ⟨x, rfl, hx⟩ := h.one
    obtain ⟨a, ws, rfl, ha, qa⟩ := hx.tuple r.sub
    exact ⟨a, ws, rfl, .inr ha.sq, fun l n => c.lst r n qa⟩
  · cases hg) hg hm (by decide +kernel) ha (he := he)
theorem call_tuple_f : CallR X (.type "tuple") (fun xs H Q => ∃ p ys, xs = [.ref p] ∧ ((SqL X.K H p ys ∧ ∀ l o, H l = none → o.dict = none → Q (.ref l) (upd H l (.frz o (.tup ys)))) ∨ (SqT X.K H p ys ∧ Q (.ref p) H))) := by
  intro pins s σ H xs us Q I r h
  obtain ⟨p, ys, rfl, h⟩ := h
  rcases h with ⟨hq, q⟩ | ⟨hq, q⟩
  · obtain ⟨u, rfl, rx⟩ := vals1 r
    cases rx
    obtain ⟨its, r', pl, hz⟩ := I.list hq
    have hlen := r'.length
    refine call_tuple_list pl.isList (fun h' kp => ?_) (by simp only [List.size_toArray] <;> omega)
    have I1 : Inv X pins σ H { s with heap := h' } := I.kept (t' := s.toks) kp
    exact ⟨.ref h'.objs.size, _, I1.laid (t' := s.toks) (fun b o e => Heap.get?_push_of_some _ e) (Nat.le_refl _) (frz_new hz r' (Heap.get?_push_size _ rfl)), rfl, q _ _ (I1.hok.fresh (Nat.le_refl _)) rfl⟩
  · exact call_tuple_of pins s σ H _ us Q I r ⟨p, ys, rfl, .inr ⟨hq, q⟩⟩
@[simp] def tupleV : List PV → Option PV
  | [.list xs] => some (.tuple xs)
  | [.tuple xs] => some (.tuple xs)
  | _ => none
theorem ev_tuple {fa : En → RE (List PV)} (hg : Gl X "tuple") (hm : X.mg "tuple" = none) (ha : AV X C .rd [e] fa)
    (he : starEach [e] X.env = (false, eval e X.env) :: starEach [] X.env := by rfl) : EV X C .sh (.Call (.Name "tuple" p) [e] [] pos) (eCal tupleV fa) := ev_callTy call_tuple_f (by
  intro C F H O σ ρ xs vs u Q r h hg c
  have h : RepRA X.K F H xs vs := h
  unfold tupleV at hg
  split at hg
  · cases hg
    obtain ⟨x, rfl, hx⟩ := h.one
    obtain ⟨a, ws, rfl, ha, qa⟩ := hx.list r.sub
    exact ⟨a, ws, rfl, .inl ⟨.of ha, fun l o n hd => c.tup r n hd qa⟩⟩
  · cases hg
    obtain ⟨x, rfl, hx⟩ := h.one
    obtain ⟨a, ws, rfl, ha, qa⟩ := hx.tuple r.sub
    refine ⟨a, ws, rfl, .inr ⟨ha.sq, ?_⟩⟩
    cases hx with
    | s z => exact c.now r z
    | o z => cases z
  · cases hg) hg hm (by decide +kernel) ha (he := he)
end
end Fx

/-! part Fw4 -/
namespace Fx
open PySem PySem.Spec PyProof.Rows L2

/-! ### data told apart by == -/
mutual
theorem Rep.dp {K : PySem.W.Frag} {H : Hp} : ∀ {v : V} {d : PV}, Rep K H v d → d.canLay0 = true → Dp K H v d
  | _, _, .non, _ => .non
  | _, _, .bl b, _ => .bl b
  | _, _, .int i, _ => .int i
  | _, _, .str x, _ => .str x
  | _, _, .lst h r, e => .lst (.of h) (RepA.dp r (by simpa [PyData.canLay0] using e))
  | _, _, .tup h r, e => .tup h.sq (RepA.dp r (by simpa [PyData.canLay0] using e))
  | _, _, .scr h r, e => by simp [PyData.canLay0] at e
  | _, _, .dK h r, e => by simp [PyData.canLay0] at e
theorem RepA.dp {K : PySem.W.Frag} {H : Hp} : ∀ {v : List V} {d : List PV}, RepA K H v d → PyData.canLayAll0 d = true → DpAll K H v d
  | _, _, .nil, _ => .nil
  | _, _, .cons (d := d) (ds := ds) h r, e => by
    have e' : d.canLay0 = true ∧ PyData.canLayAll0 ds = true := by simpa [PyData.canLayAll0] using e
    exact .cons (Rep.dp h e'.1) (RepA.dp r e'.2)
end
def eqvOk (v w : PV) : Bool := v.canLay0 && w.canLay0 && (decide (v.depth ≤ 64) || decide (w.depth ≤ 64))
/-- == as Python tells it -/
def eqP : PV → PV → Option Bool
  | .int i, .int j => some (i == j)
  | .str x, .str y => some (x == y)
  | .none, .none => some true
  | v, w => if eqvOk v w then some (PyData.eqv v w) else none
def neP (v w : PV) : Option Bool := (eqP v w).map fun b => !b
section
variable {X : Cx} {C : Cf} {a b c e : Expr} {es : List Expr} {fa fb fc : En → RE PV} {f2 : En → RE (PV × PV)} {pos : Pos} {k : Kd}
theorem dp_eq (hu : X.A.units + 64 < cLine) (eq : Bool) : OpR X (compareOp (if eq then .Eq else .NotEq)) (fun x y H Q => ∃ d e, Dp X.K H x d ∧ Dp X.K H y e ∧ eqvOk d e = true ∧ Q (.bl (if eq then PyData.eqv d e else !PyData.eqv d e)) H) := by
  intro pins s σ H x y v u Q I rx ry h
  obtain ⟨d, e, hd, he, ok, q⟩ := h
  obtain ⟨as, r1⟩ := Dp.reads I d x v hd rx
  obtain ⟨bs, r2⟩ := Dp.reads I e y u he ry
  unfold eqvOk at ok
  simp only [Bool.and_eq_true, Bool.or_eq_true, decide_eq_true_eq] at ok
  obtain ⟨⟨l1, l2⟩, dd⟩ := ok
  have room : X.A.units + min d.depth e.depth < cLine := by omega
  cases eq with
  | true => exact SeqAt.compareEq_reads r1 r2 l1 l2 room ⟨.bl _, H, I, rfl, q⟩
  | false => exact SeqAt.compareNe_reads r1 r2 l1 l2 room ⟨.bl _, H, I, rfl, q⟩
theorem OpB.of {f : Value → Value → Sem Value} {g : PV → PV → Option Bool} {r : R2} (h : OpR X f r) (hr : ∀ (H : Hp) (x y : V) (v w : PV) (b : Bool) (Q : VK), Rep X.K H x v → Rep X.K H y w → g v w = some b → Q (.bl b) H → r x y H Q) : OpB X f g := by
  intro pins s σ H x y v u Q I rx ry ⟨p, q, b, h1, h2, e, hq⟩
  exact h pins s σ H x y v u Q I rx ry (hr H x y p q b Q h1 h2 e hq)
theorem ob_eq (hu : X.A.units + 64 < cLine) : OpB X (compareOp .Eq) eqP := .of (op_eq.or (dp_eq hu true)) (by
  intro H x y v w b Q hx hy hg q
  unfold eqP at hg
  split at hg
  · cases hg; cases hx; cases hy; exact .inl ⟨rfl, by rw [dec_int]; exact q⟩
  · cases hg; cases hx; cases hy; exact .inl ⟨rfl, by rw [dec_str]; exact q⟩
  · cases hg; cases hx; cases hy; exact .inl ⟨rfl, by simpa using q⟩
  · split at hg
    · rename_i ok
      cases hg
      have ok' := ok
      unfold eqvOk at ok'
      simp only [Bool.and_eq_true] at ok'
      exact .inr ⟨_, _, hx.dp ok'.1.1, hy.dp ok'.1.2, ok, q⟩
    · cases hg)
theorem ob_ne (hu : X.A.units + 64 < cLine) : OpB X (compareOp .NotEq) neP := .of (op_ne.or (dp_eq hu false)) (by
  intro H x y v w b Q hx hy hg q
  unfold neP eqP at hg
  split at hg
  · cases hg; cases hx; cases hy; exact .inl ⟨rfl, by rw [dec_int]; exact q⟩
  · cases hg; cases hx; cases hy; exact .inl ⟨rfl, by rw [dec_str]; exact q⟩
  · cases hg; cases hx; cases hy; exact .inl ⟨rfl, by simpa using q⟩
  · split at hg
    · rename_i ok
      cases hg
      have ok' := ok
      unfold eqvOk at ok'
      simp only [Bool.and_eq_true] at ok'
      exact .inr ⟨_, _, hx.dp ok'.1.1, hy.dp ok'.1.2, ok, q⟩
    · cases hg)
@[simp] def ltP' : PV → PV → Option Bool
  | .int i, .int j => some (decide (i < j))
  | _, _ => none
@[simp] def leP : PV → PV → Option Bool
  | .int i, .int j => some (decide (i ≤ j))
  | _, _ => none
@[simp] def gtP : PV → PV → Option Bool
  | .int i, .int j => some (decide (j < i))
  | _, _ => none
@[simp] def geP : PV → PV → Option Bool
  | .int i, .int j => some (decide (j ≤ i))
  | _, _ => none
theorem ob_lt : OpB X (compareOp .Lt) ltP' := .of op_lt (by
  intro H x y v w b Q hx hy hg q
  unfold ltP' at hg
  split at hg
  · cases hg; cases hx; cases hy; exact ⟨_, _, rfl, rfl, q⟩
  · cases hg)
theorem ob_le : OpB X (compareOp .LtE) leP := .of op_le (by
  intro H x y v w b Q hx hy hg q
  unfold leP at hg
  split at hg
  · cases hg; cases hx; cases hy; exact ⟨_, _, rfl, rfl, q⟩
  · cases hg)
theorem ob_gt : OpB X (compareOp .Gt) gtP := .of op_gt (by
  intro H x y v w b Q hx hy hg q
  unfold gtP at hg
  split at hg
  · cases hg; cases hx; cases hy; exact ⟨_, _, rfl, rfl, q⟩
  · cases hg)
theorem ob_ge : OpB X (compareOp .GtE) geP := .of op_ge (by
  intro H x y v w b Q hx hy hg q
  unfold geP at hg
  split at hg
  · cases hg; cases hx; cases hy; exact ⟨_, _, rfl, rfl, q⟩
  · cases hg)
/-! ### in -/
theorem dp_inT (hu : X.A.units + 65 < cLine) (neg : Bool) : OpR X (compareOp (if neg then .NotIn else .In)) (fun x y H Q => ∃ d ds, Dp X.K H x d ∧ Dp X.K H y (.tuple ds) ∧ d.canLay0 = true ∧ d.depth ≤ 64 ∧ PyData.canLayAll0 ds = true ∧ Q (.bl (if neg then !ds.any fun z => PyData.eqv z d else ds.any fun z => PyData.eqv z d)) H) := by
  intro pins s σ H x y v u Q I rx ry h
  obtain ⟨d, ds, hd, he, l1, dd, l2, q⟩ := h
  obtain ⟨as, r1⟩ := Dp.reads I d x v hd rx
  obtain ⟨bs, r2⟩ := Dp.reads I (.tuple ds) y u he ry
  have room : X.A.units + 1 + min (PyData.depthAll ds) d.depth < cLine := by omega
  cases neg with
  | false => exact SeqAt.in_tuple_reads r2 r1 l2 l1 room ⟨.bl _, H, I, rfl, q⟩
  | true => exact SeqAt.notIn_tuple_reads r2 r1 l2 l1 room ⟨.bl _, H, I, rfl, q⟩
theorem dp_inL (hu : X.A.units + 65 < cLine) (neg : Bool) : OpR X (compareOp (if neg then .NotIn else .In)) (fun x y H Q => ∃ d ds, Dp X.K H x d ∧ Dp X.K H y (.list ds) ∧ d.canLay0 = true ∧ d.depth ≤ 64 ∧ PyData.canLayAll0 ds = true ∧ Q (.bl (if neg then !ds.any fun z => PyData.eqv z d else ds.any fun z => PyData.eqv z d)) H) := by
  intro pins s σ H x y v u Q I rx ry h
  obtain ⟨d, ds, hd, he, l1, dd, l2, q⟩ := h
  obtain ⟨as, r1⟩ := Dp.reads I d x v hd rx
  obtain ⟨bs, r2⟩ := Dp.reads I (.list ds) y u he ry
  have room : X.A.units + 1 + min (PyData.depthAll ds) d.depth < cLine := by omega
  cases neg with
  | false => exact SeqAt.in_list_reads r2 r1 l2 l1 room ⟨.bl _, H, I, rfl, q⟩
  | true => exact SeqAt.notIn_list_reads r2 r1 l2 l1 room ⟨.bl _, H, I, rfl, q⟩
def inOk (v : PV) (xs : List PV) : Bool := v.canLay0 && decide (v.depth ≤ 64) && PyData.canLayAll0 xs
def inP : PV → PV → Option Bool
  | v, .list xs => if inOk v xs then some (xs.any fun z => PyData.eqv z v) else none
  | v, .tuple xs => if inOk v xs then some (xs.any fun z => PyData.eqv z v) else none
  | .str ⟨⟨[ch]⟩⟩, .str z => some (decide (ch ∈ z.cps.toList))
  | _, _ => none
def niP (v w : PV) : Option Bool := (inP v w).map fun b => !b
theorem ob_in (hu : X.A.units + 65 < cLine) : OpB X (compareOp .In) inP := .of ((dp_inL hu false).or ((dp_inT hu false).or op_in_sign)) (by
  intro H x y v w b Q hx hy hg q
  unfold inP at hg
  split at hg
  · split at hg
    · rename_i ok
      cases hg
      unfold inOk at ok
      simp only [Bool.and_eq_true, decide_eq_true_eq] at ok
      exact .inl ⟨_, _, hx.dp ok.1.1, hy.dp (by simpa [PyData.canLay0] using ok.2), ok.1.1, ok.1.2, ok.2, q⟩
    · cases hg
  · split at hg
    · rename_i ok
      cases hg
      unfold inOk at ok
      simp only [Bool.and_eq_true, decide_eq_true_eq] at ok
      exact .inr (.inl ⟨_, _, hx.dp ok.1.1, hy.dp (by simpa [PyData.canLay0] using ok.2), ok.1.1, ok.1.2, ok.2, q⟩)
    · cases hg
  · cases hg
    cases hx
    cases hy
    exact .inr (.inr ⟨_, _, rfl, rfl, q⟩)
  · cases hg)
theorem ob_ni (hu : X.A.units + 65 < cLine) : OpB X (compareOp .NotIn) niP := .of ((dp_inL hu true).or ((dp_inT hu true).or op_notIn_sign)) (by
  intro H x y v w b Q hx hy hg q
  unfold niP inP at hg
  split at hg
  · split at hg
    · rename_i ok
      cases hg
      unfold inOk at ok
      simp only [Bool.and_eq_true, decide_eq_true_eq] at ok
      exact .inl ⟨_, _, hx.dp ok.1.1, hy.dp (by simpa [PyData.canLay0] using ok.2), ok.1.1, ok.1.2, ok.2, q⟩
    · cases hg
  · split at hg
    · rename_i ok
      cases hg
      unfold inOk at ok
      simp only [Bool.and_eq_true, decide_eq_true_eq] at ok
      exact .inr (.inl ⟨_, _, hx.dp ok.1.1, hy.dp (by simpa [PyData.canLay0] using ok.2), ok.1.1, ok.1.2, ok.2, q⟩)
    · cases hg
  · cases hg
    cases hx
    cases hy
    exact .inr (.inr ⟨_, _, rfl, rfl, q⟩)
  · cases hg)
/-! ### is -/
@[simp] def isNone : PV → Bool
  | .none => true
  | _ => false
@[simp] def isP : PV → PV → Option Bool
  | .bool a, .bool b => some (a == b)
  | v, .none => some (isNone v)
  | _, _ => none
@[simp] def isnP : PV → PV → Option Bool
  | .bool a, .bool b => some (!(a == b))
  | v, .none => some (!isNone v)
  | _, _ => none
theorem Rep.isNone {K : PySem.W.Frag} {H : Hp} {x : V} {v : PV} (h : Rep K H x v) : decide (x = .non) = Fx.isNone v := by
  cases h <;> simp [Fx.isNone]
theorem ob_is : OpB X (compareOp .Is) isP := .of (op_isN.or op_isBl) (by
  intro H x y v w b Q hx hy hg q
  unfold isP at hg
  split at hg
  · cases hg; cases hx; cases hy; exact .inr ⟨_, _, rfl, rfl, by rw [show decide (_ = _) = (_ == _) from (Bool.beq_eq_decide_eq _ _).symm]; exact q⟩
  · cases hg; cases hy; exact .inl ⟨rfl, by rw [hx.isNone]; exact q⟩
  · cases hg)
theorem ob_isn : OpB X (compareOp .IsNot) isnP := .of (op_notN.or op_notBl) (by
  intro H x y v w b Q hx hy hg q
  unfold isnP at hg
  split at hg
  · cases hg; cases hx; cases hy; exact .inr ⟨_, _, rfl, rfl, by rw [show decide (_ = _) = (_ == _) from (Bool.beq_eq_decide_eq _ _).symm]; exact q⟩
  · cases hg; cases hy; exact .inl ⟨rfl, by rw [hx.isNone]; exact q⟩
  · cases hg)
/-! ### a op b op c -/
@[simp] def eChn (g g' : PV → PV → Option Bool) (fa fb fc : En → RE PV) (ρ : En) : RE PV := (fa ρ).bind fun v ρ1 => (fb ρ1).bind fun w ρ2 => match g v w with
  | some true => (fc ρ2).bind fun u ρ3 => match g' w u with | some b => .ok (.bool b) ρ3 | none => .bad
  | some false => .ok (.bool false) ρ2
  | none => .bad
theorem ev_chn {op op' : CmpOp} {g g' : PV → PV → Option Bool} (ho : OpB X (compareOp op) g) (ho' : OpB X (compareOp op') g') (ha : EV X C .sh a fa) (hb : EV X C .sh b fb) (hc : EV X C .sh c fc)
    (hm : lastMarks [op, op'] [b, c] = false := by with_unfolding_all rfl) : EV X C .sh (.Compare a [op, op'] [b, c] pos) (eChn g g' fa fb fc) := by
  refine PE.imp (pe_chain ho ho' ha hb hc hm) fun σ H Q ⟨F, O, ρ, r, q⟩ => ?_
  unfold eChn at q
  refine tE.bind r (fun v ρ1 F1 O1 H1 x e1 s1 r1 p1 => ?_) (fun c ρ1 e1 => ?_) fun e1 => ?_
  · rw [e1] at q
    refine tE.bind r1 (fun w ρ2 F2 O2 H2 y e2 s2 r2 p2 => ?_) (fun c ρ2 e2 => ?_) fun e2 => ?_
    · simp only [RE.bind, e2] at q
      have p1 : Rep X.K F1 x v := p1
      have p2 : Rep X.K F2 y w := p2
      cases hg : g v w with
      | none => rw [hg] at q; exact q.elim
      | some b1 =>
        rw [hg] at q
        refine ⟨v, w, b1, Rep.mono (s2.ext.trans r2.sub) p1, Rep.mono r2.sub p2, hg, b1, rfl, ?_⟩
        cases b1 with
        | false => exact q F2 O2 H2 _ (s1.trans s2) r2 (.bl false)
        | true =>
          refine tE.bind r2 (fun u ρ3 F3 O3 H3 z e3 s3 r3 p3 => ?_) (fun c ρ3 e3 => ?_) fun e3 => ?_
          · simp only [RE.bind, e3] at q
            have p3 : Rep X.K F3 z u := p3
            cases hg' : g' w u with
            | none => rw [hg'] at q; exact q.elim
            | some b2 =>
              rw [hg'] at q
              exact ⟨w, u, b2, Rep.mono (s3.ext.trans r3.sub) p2, Rep.mono r3.sub p3, hg', q F3 O3 H3 _ ((s1.trans s2).trans s3) r3 (.bl b2)⟩
          · simp only [RE.bind, e3] at q
            exact ExcP.from (s1.trans s2) q
          · simp only [RE.bind, e3] at q
            exact q.elim
    · simp only [RE.bind, e2] at q
      exact ExcP.from s1 q
    · simp only [RE.bind, e2] at q
      exact q.elim
  · rw [e1] at q; exact q
  · rw [e1] at q; exact q.elim
@[simp] def bChn (g g' : PV → PV → Option Bool) (fa fb fc : En → RE PV) (ρ : En) : RE Bool := (fa ρ).bind fun v ρ1 => (fb ρ1).bind fun w ρ2 => match g v w with
  | some true => (fc ρ2).bind fun u ρ3 => match g' w u with | some b => .ok b ρ3 | none => .bad
  | some false => .ok false ρ2
  | none => .bad
theorem tv_chn {op op' : CmpOp} {g g' : PV → PV → Option Bool} (ho : OpB X (compareOp op) g) (ho' : OpB X (compareOp op') g') (ha : EV X C .sh a fa) (hb : EV X C .sh b fb) (hc : EV X C .sh c fc)
    (hm : lastMarks [op, op'] [b, c] = false := by with_unfolding_all rfl) : TV X C (.Compare a [op, op'] [b, c] pos) (bChn g g' fa fb fc) := by
  refine PT.imp (pt_chain ho ho' ha hb hc hm) fun σ H Q ⟨F, O, ρ, r, q⟩ => ?_
  unfold bChn at q
  refine tE.bind r (fun v ρ1 F1 O1 H1 x e1 s1 r1 p1 => ?_) (fun c ρ1 e1 => ?_) fun e1 => ?_
  · rw [e1] at q
    refine tE.bind r1 (fun w ρ2 F2 O2 H2 y e2 s2 r2 p2 => ?_) (fun c ρ2 e2 => ?_) fun e2 => ?_
    · simp only [RE.bind, e2] at q
      have p1 : Rep X.K F1 x v := p1
      have p2 : Rep X.K F2 y w := p2
      cases hg : g v w with
      | none => rw [hg] at q; exact q.elim
      | some b1 =>
        rw [hg] at q
        refine ⟨v, w, b1, Rep.mono (s2.ext.trans r2.sub) p1, Rep.mono r2.sub p2, hg, b1, rfl, ?_⟩
        cases b1 with
        | false => exact ⟨false, rfl, q F2 O2 H2 (s1.trans s2) r2⟩
        | true =>
          refine tE.bind r2 (fun u ρ3 F3 O3 H3 z e3 s3 r3 p3 => ?_) (fun c ρ3 e3 => ?_) fun e3 => ?_
          · simp only [RE.bind, e3] at q
            have p3 : Rep X.K F3 z u := p3
            cases hg' : g' w u with
            | none => rw [hg'] at q; exact q.elim
            | some b2 =>
              rw [hg'] at q
              exact ⟨w, u, b2, Rep.mono (s3.ext.trans r3.sub) p2, Rep.mono r3.sub p3, hg', b2, rfl, q F3 O3 H3 ((s1.trans s2).trans s3) r3⟩
          · simp only [RE.bind, e3] at q
            exact ExcP.from (s1.trans s2) q
          · simp only [RE.bind, e3] at q
            exact q.elim
    · simp only [RE.bind, e2] at q
      exact ExcP.from s1 q
    · simp only [RE.bind, e2] at q
      exact q.elim
  · rw [e1] at q; exact q
  · rw [e1] at q; exact q.elim

/-! ### isinstance of a built-in class, of (tuple, list) -/
def tyName : PV → Option String
  | .none => some "NoneType"
  | .bool _ => some "bool"
  | .int _ => some "int"
  | .str _ => some "str"
  | .list _ => some "list"
  | .tuple _ => some "tuple"
  | .dict [(.none, .list _)] => none
  | .dict _ => some "dict"
theorem tyX_of {K : PySem.W.Frag} {H : Hp} {x : V} {v : PV} {n : String} (h : Rep K H x v) (e : tyName v = some n) : TyX K H x (.type n) := by
  cases h with
  | non => cases e; exact .base .non
  | bl => cases e; exact .base (.bl _)
  | int => cases e; exact .base (.int _)
  | str => cases e; exact .base (.str _)
  | lst h _ => cases e; exact .base (.lst h)
  | tup h _ =>
    cases e
    rcases h with ⟨o, h, _⟩ | ⟨o, its, n, h, c, _⟩
    · exact .fTuple h
    · exact .kTuple h c
  | scr => cases e
  | dK h t =>
    have e' : n = "dict" := by
      unfold tyName at e
      split at e
      all_goals first | (cases e; done) | (cases e; rfl) | exact absurd ‹PyData.dict _ = _› (by simp)
    subst e'
    exact .base (.dK h)
def isiP (T : String) (v : PV) : Option Bool := (tyName v).bind fun n => kitB n T
@[simp] def eIsi (T : String) (fa : En → RE PV) (ρ : En) : RE PV := (fa ρ).bind fun v ρ1 => match isiP T v with | some b => .ok (.bool b) ρ1 | none => .bad
theorem ev_isi {T : String} {nx : Str} {p p1 : Pos} (hg : Gl X "isinstance") (hm : X.mg "isinstance" = none) (ha : EV X C .rd e fa) (gT : Gl X nx) (mT : X.mg nx = none) (bT : bootBuiltins nx = some (.type T))
    (hn : nx ≠ "__name__" := by decide) (hd : (nx == ("__debug__" : Str)) = false := by decide)
    (he : starEach [e, .Name nx p1] X.env = (false, eval e X.env) :: starEach [.Name nx p1] X.env := by rfl) (hpl : (backTo pos (starEach [.Name nx p1] X.env)).any (·.1) = false := by rfl)
    (hs : starEach [.Name nx p1] X.env = (false, eval (.Name nx p1) X.env) :: starEach [] X.env := by rfl) : EV X C .sh (.Call (.Name "isinstance" p) [e, .Name nx p1] [] pos) (eIsi T fa) := by
  refine PE.imp (pe_callB call_isi hg hm (by decide +kernel) (pa_cons ha (pa_cons (pe_bltn (v := .ty T) gT mT bT rfl hn hd) pa_nil hs) he) (by decide) (by decide) he hpl) fun σ H Q ⟨F, O, ρ, r, q⟩ => ?_
  unfold eIsi at q
  refine tE.bind r (fun v ρ1 F1 O1 H1 x e1 s1 r1 p1 => ?_) (fun c ρ1 e1 => ?_) fun e1 => ?_
  · rw [e1] at q
    simp only [RE.bind] at q
    cases hi : isiP T v with
    | none => rw [hi] at q; exact q.elim
    | some bb =>
      rw [hi] at q
      unfold isiP at hi
      cases hn : tyName v with
      | none => rw [hn] at hi; cases hi
      | some n =>
        rw [hn] at hi
        exact ⟨x, _, _, _, bb, rfl, .ty T, tyX_of (RepR.rep r1.sub p1) hn, kit_ty hi, q F1 O1 H1 _ s1 r1 (.bl bb)⟩
  · rw [e1] at q; exact q
  · rw [e1] at q; exact q.elim
def isTL (v : PV) : Option Bool := match v with
  | .list _ | .tuple _ => some true
  | .dict _ => none
  | _ => some false
@[simp] def eIsTL (fa : En → RE PV) (ρ : En) : RE PV := (fa ρ).bind fun v ρ1 => match isTL v with | some b => .ok (.bool b) ρ1 | none => .bad
theorem ev_isTL {p p1 p2 pt : Pos} {kt : Nat} (hg : Gl X "isinstance") (hm : X.mg "isinstance" = none) (ha : EV X C .rd e fa) (gT : Gl X "tuple") (mT : X.mg "tuple" = none) (gL : Gl X "list") (mL : X.mg "list" = none)
    (he : starEach [e, .Tuple [.Name "tuple" p1, .Name "list" p2] kt pt] X.env = (false, eval e X.env) :: starEach [.Tuple [.Name "tuple" p1, .Name "list" p2] kt pt] X.env := by rfl)
    (hpl : (backTo pos (starEach [.Tuple [.Name "tuple" p1, .Name "list" p2] kt pt] X.env)).any (·.1) = false := by rfl)
    (hs : starEach [.Tuple [.Name "tuple" p1, .Name "list" p2] kt pt] X.env = (false, eval (.Tuple [.Name "tuple" p1, .Name "list" p2] kt pt) X.env) :: starEach [] X.env := by rfl)
    (h1 : starEach [.Name "tuple" p1, .Name "list" p2] X.env = (false, eval (.Name "tuple" p1) X.env) :: starEach [.Name "list" p2] X.env := by rfl)
    (h2 : starEach [.Name "list" p2] X.env = (false, eval (.Name "list" p2) X.env) :: starEach [] X.env := by rfl) :
    EV X C .sh (.Call (.Name "isinstance" p) [e, .Tuple [.Name "tuple" p1, .Name "list" p2] kt pt] [] pos) (eIsTL fa) := by
  refine PE.imp (pe_callB call_isiT hg hm (by decide +kernel) (pa_cons ha (pa_cons (pe_tup (pa_cons (pe_bltn (v := .ty "tuple") gT mT (by decide +kernel) rfl) (pa_cons (pe_bltn (v := .ty "list") gL mL (by decide +kernel) rfl) pa_nil h2) h1)) pa_nil hs) he) (by decide) (by decide) he hpl) fun σ H Q ⟨F, O, ρ, r, q⟩ => ?_
  unfold eIsTL at q
  refine tE.bind r (fun v ρ1 F1 O1 H1 x e1 s1 r1 p1 => ?_) (fun c ρ1 e1 => ?_) fun e1 => ?_
  · rw [e1] at q
    simp only [RE.bind] at q
    refine ⟨by show 2 ≤ sizeLine; decide, fun tp n => ?_⟩
    cases hi : isTL v with
    | none => rw [hi] at q; exact q.elim
    | some bb =>
      rw [hi] at q
      obtain ⟨r2, s2⟩ := r1.alloc (o := .tup [.ty "tuple", .ty "list"]) n
      have hq := q F1 O1 _ _ (s1.trans s2) r2 (.bl bb)
      have hx : Rep X.K (upd H1 tp (.tup [.ty "tuple", .ty "list"])) x v := Rep.mono (same_put n _) (RepR.rep r1.sub p1)
      have fin : ∀ n, tyName v = some n → PySem.W.kitAny X.K (.type n) [.type "tuple", .type "list"] = some bb → _ := fun n hn kk =>
        (⟨x, tp, _, .type n, [.type "tuple", .type "list"], bb, rfl, upd_same, .cons (.ty "tuple") (.cons (.ty "list") .nil), tyX_of hx hn, kk, hq⟩ : rIsiT X.K [x, .ref tp] (upd H1 tp (.tup [.ty "tuple", .ty "list"])) Q)
      have two : ∀ (n : String) (b1 b2 : Bool), kitB n "tuple" = some b1 → kitB n "list" = some b2 → (b1 || b2) = bb → PySem.W.kitAny X.K (.type n) [.type "tuple", .type "list"] = some bb := fun n b1 b2 z1 z2 z3 => by
        refine kitAny_cons (kit_ty z1) (fun e => ?_) (fun e => by subst e; simpa using z3.symm)
        subst e
        refine kitAny_cons (kit_ty z2) (fun e => ?_) (fun e => by subst e; simpa using z3.symm)
        subst e
        rw [← z3]; exact kitAny_nil
      cases v with
      | none => cases hi; exact fin _ rfl (two _ false false (by decide +kernel) (by decide +kernel) rfl)
      | bool => cases hi; exact fin _ rfl (two _ false false (by decide +kernel) (by decide +kernel) rfl)
      | int => cases hi; exact fin _ rfl (two _ false false (by decide +kernel) (by decide +kernel) rfl)
      | str => cases hi; exact fin _ rfl (two _ false false (by decide +kernel) (by decide +kernel) rfl)
      | list => cases hi; exact fin _ rfl (two _ false true (by decide +kernel) (by decide +kernel) rfl)
      | tuple => cases hi; exact fin _ rfl (two _ true false (by decide +kernel) (by decide +kernel) rfl)
      | dict => cases hi
  · rw [e1] at q; exact q
  · rw [e1] at q; exact q.elim
end
end Fx

/-! part Fw5 -/
namespace Fx
open PySem PySem.Spec PyProof.Rows L2

/-! ### targets -/
inductive Tg where
  | n (i : Nat) | t (is : List Nat)
@[simp] def Tg.slots : Tg → List Nat
  | .n i => [i]
  | .t is => is
@[simp] def putAll : List Nat → List PV → En → Option En
  | [], [], ρ => some ρ
  | i :: is, v :: vs, ρ => putAll is vs (ρ.set i (some (.s v)))
  | _, _, _ => none
@[simp] def Tg.put : Tg → PV → En → Option En
  | .n i, v, ρ => some (ρ.set i (some (.s v)))
  | .t is, .tuple vs, ρ => putAll is vs ρ
  | .t is, .list vs, ρ => putAll is vs ρ
  | .t _, _, _ => none
@[simp] def gNames : List Nat → TGs
  | [] => gNil
  | i :: is => gCons (gName i) (gNames is)
@[simp] def gTg (K : PySem.W.Frag) : Tg → TG
  | .n i => gName i
  | .t is => fun v σ H Q => gTup K is.length (gNames is) v σ H Q ∨ gLst K is.length (gNames is) v σ H Q
def GV (X : Cx) (tg : Expr) (t : Tg) : Prop := PG X tg (gTg X.K t)
/-- an item that is walked: shared, or a tuple that was just laid -/
inductive RepY (K : PySem.W.Frag) (F H : Hp) : V → PV → Prop
  | s {v : V} {p : PV} : Rep K F v p → RepY K F H v p
  | t {a : Addr} {xs : List V} {ds : List PV} : SqT K H a xs → RepA K F xs ds → RepY K F H (.ref a) (.tuple ds)
section
variable {X : Cx} {pos : Pos} {i : Nat} {x : Str}
theorem gv_n (hN : X.N.Nodup) (hi : X.N[i]? = some x) (hx : Loc X.env.scope x) (hf : X.fn x = true ∨ X.env.scope.names.lookup x = some .local := by first | exact .inl rfl | exact .inr rfl | assumption) : GV X (.Name x pos) (.n i) := pg_name hN hi hx hf
theorem gv_t {es : List Expr} {kk : Nat} {is : List Nat} (hc : X.calm = true) (h : PGs X es (gNames is)) (hn : (assignEach es X.env).length = is.length := by rfl) (hst : (assignEach es X.env).findIdx? (·.1) = none := by rfl) : GV X (.Tuple es kk pos) (.t is) := by
  refine ⟨fun pins s σ H v u Q I r hw => ?_⟩
  rcases hw with hw | hw
  · exact (pg_tup hc h hn hst).run pins s σ H v u Q I r hw
  · exact (pg_lst hc h hn hst).run pins s σ H v u Q I r hw
end
theorem wipe_set {σ : L2.St} {i : Nat} {x : Option V} : ∀ {vs : List Nat}, i ∈ vs → wipe (σ.set i x) vs = wipe σ vs
  | [], h => nomatch h
  | v :: vs, h => by
    by_cases e : i = v
    · subst e
      unfold wipe
      by_cases q : i ∈ vs
      · rw [wipe_set q]
      · have : ∀ (τ : L2.St) (ws : List Nat), i ∉ ws → wipe (τ.set i x) ws = (wipe τ ws).set i x := fun τ ws => by
          induction ws with
          | nil => intro _; rfl
          | cons w ws ih =>
            intro hn
            unfold wipe
            rw [ih fun z => hn (List.mem_cons_of_mem _ z), List.set_comm _ _ (fun z => hn (by rw [z]; exact List.mem_cons_self))]
        rw [this σ vs q, List.set_set]
    · unfold wipe
      rw [wipe_set ((List.mem_cons.mp h).resolve_left e)]
section
variable {K : PySem.W.Frag} {C : Cf} {F H : Hp} {O : Own} {σ : L2.St} {ρ ρ' : En}
theorem putAll_ok (ws : List Nat) : ∀ {vs : List V} {ds : List PV}, RepA K F vs ds → ∀ {is : List Nat} {σ : L2.St} {O : Own} {ρ ρ' : En} {Q : L2.St → Hp → Prop}, Rel K C F O σ H ρ → putAll is ds ρ = some ρ' → (∀ i ∈ is, i ∉ C.ioS) →
    (∀ σ' O', Step F H O F H O' → Rel K C F O' σ' H ρ' → ((∀ i ∈ is, i ∈ ws) → wipe σ' ws = wipe σ ws) → Q σ' H) → gNames is vs σ H Q
  | _, _, .nil, [], σ, O, _, _, _, r, h, hi, c => by cases h; exact ⟨rfl, c σ O .refl r fun _ => rfl⟩
  | _, _, .nil, _ :: _, _, _, _, _, _, _, h, _, _ => by cases h
  | _, _, .cons _ _, [], _, _, _, _, _, _, h, _, _ => by cases h
  | _, _, .cons hd hr, i :: is, σ, O, ρ, ρ', Q, r, h, hi, c => by
    refine ⟨_, _, rfl, ?_⟩
    refine putAll_ok ws hr (r.putS (hi i List.mem_cons_self) hd) h (fun j hj => hi j (List.mem_cons_of_mem _ hj)) fun σ' O' s' r' w' => c σ' O' (step_free.trans s') r' fun hw => ?_
    rw [w' fun j hj => hw j (List.mem_cons_of_mem _ hj), wipe_set (hw i List.mem_cons_self)]
theorem putAll_len : ∀ {is : List Nat} {ds : List PV} {ρ ρ' : En}, putAll is ds ρ = some ρ' → ds.length = is.length
  | [], [], _, _, _ => rfl
  | [], _ :: _, _, _, h => by cases h
  | _ :: _, [], _, _, h => by cases h
  | i :: is, v :: vs, ρ, ρ', h => congrArg (· + 1) (putAll_len (is := is) (ds := vs) h)
theorem tg_put {t : Tg} {x : V} {p : PV} (ws : List Nat) {Q : L2.St → Hp → Prop} (r : Rel K C F O σ H ρ) (y : RepY K F H x p) (yt : ∀ i, t = .n i → Rep K F x p) (h : t.put p ρ = some ρ') (hi : ∀ i ∈ t.slots, i ∉ C.ioS)
    (c : ∀ σ' O', Step F H O F H O' → Rel K C F O' σ' H ρ' → ((∀ i ∈ t.slots, i ∈ ws) → wipe σ' ws = wipe σ ws) → Q σ' H) : gTg K t x σ H Q := by
  cases t with
  | n i =>
    cases h
    exact c _ _ step_free (r.putS (hi i (List.mem_singleton.mpr rfl)) (yt i rfl)) fun hw => wipe_set (hw i (List.mem_singleton.mpr rfl))
  | t is =>
    have tup : ∀ a vs ds, x = .ref a → p = .tuple ds → SqT K H a vs → RepA K F vs ds → gTg K (.t is) x σ H Q := fun a vs ds ex ep hs hr => by
      subst ep
      exact .inl ⟨a, vs, ex, hs, by rw [hr.length]; exact putAll_len h, putAll_ok ws hr r h hi c⟩
    cases y with
    | s y =>
      cases p with
      | tuple ds => cases y with | tup hs hr => exact tup _ _ _ rfl rfl ((hs.mono r.sub).sq) hr
      | list ds => cases y with | lst hs hr => exact .inr ⟨_, _, rfl, .of (r.sub _ _ hs), by rw [hr.length]; exact putAll_len h, putAll_ok ws hr r h hi c⟩
      | _ => cases h
    | t hs hr => exact tup _ _ _ rfl rfl hs hr
end

theorem wipe_sub {σ : L2.St} {vs : List Nat} : ∀ {us : List Nat}, (∀ i ∈ us, i ∈ vs) → wipe (wipe σ us) vs = wipe σ vs
  | [], _ => rfl
  | u :: us, h => by
    show wipe ((wipe σ us).set u none) vs = wipe σ vs
    rw [wipe_set (h u List.mem_cons_self), wipe_sub fun i hi => h i (List.mem_cons_of_mem _ hi)]
theorem wipe_idem {σ : L2.St} {vs : List Nat} : wipe (wipe σ vs) vs = wipe σ vs := wipe_sub fun _ h => h
/-! ### what is walked -/
/-- over F the iterator yields just these items -/
structure ItOk (K : PySem.W.Frag) (F : Hp) (tg : Tg) (J : It) (xs : List PV) : Prop where
  go : ∀ H i, Same F H → i < xs.length → J.go i H
  stop : ∀ H i, Same F H → xs.length ≤ i → J.stop i H
  yld : ∀ H i x H' p, Same F H → J.yld i H x H' → xs[i]? = some p → (H' = H ∨ ∃ T o, H T = none ∧ H' = upd H T o) ∧ RepY K F H' x p ∧ (∀ j, tg = .n j → Rep K F x p)
theorem ItOk.mono {K : PySem.W.Frag} {F F' : Hp} {tg : Tg} {J : It} {xs : List PV} (e : Same F F') (h : ItOk K F tg J xs) : ItOk K F' tg J xs :=
  ⟨fun H i s => h.go H i (e.trans s), fun H i s => h.stop H i (e.trans s), fun H i x H' p s y q => by
    obtain ⟨a, b, c⟩ := h.yld H i x H' p (e.trans s) y q
    refine ⟨a, ?_, fun j z => (c j z).mono e⟩
    cases b with
    | s z => exact .s (z.mono e)
    | t z w => exact .t z (w.mono e)⟩
def PostI (K : PySem.W.Frag) (C : Cf) (tg : Tg) (F H : Hp) (O : Own) (σ : L2.St) (R : It → Hp → Prop) : RE (List PV) → Prop
  | .ok xs ρ' => ∀ F' O' H' J, Step F H O F' H' O' → Rel K C F' O' σ H' ρ' → ItOk K F' tg J xs → R J H'
  | .exc c ρ' => ExcP K C F H O σ c ρ'
  | .bad => False
def tI (K : PySem.W.Frag) (C : Cf) (tg : Tg) (f : En → RE (List PV)) : TI := fun σ H R => ∃ F O ρ, Rel K C F O σ H ρ ∧ PostI K C tg F H O σ R (f ρ)
def IV (X : Cx) (C : Cf) (tx : Expr) (tg : Tg) (iter : Expr) (f : En → RE (List PV)) : Prop := PI X tx iter (tI X.K C tg f)
theorem PI.imp {X : Cx} {tx iter : Expr} {t t' : TI} (h : PI X tx iter t) (w : ∀ σ H R, t' σ H R → t σ H R) : PI X tx iter t' := ⟨fun pins s σ H R I q => h.run pins s σ H R I (w _ _ _ q)⟩
section
variable {X : Cx} {C : Cf} {tx e : Expr} {tg : Tg} {fa : En → RE PV} {pos p : Pos}
/-- a list or a tuple, by what comes -/
theorem pi_seq {l : Expr} {tl : TE} (hl : PE X l tl) : PI X tx l (fun σ H R => tl σ H fun x H1 => ∃ a, x = .ref a ∧ (((∃ xs, SqL X.K H1 a xs) ∧ R (Itl X.K a) H1) ∨ ((∃ xs, SqT X.K H1 a xs) ∧ R (Itt X.K a) H1))) := by
  refine ⟨fun pins s σ H R I h => thn (hl.run pins s σ H _ I h) fun v s1 ⟨x, H1, I1, r1, a, e, q1⟩ => ?_⟩
  subst e
  cases r1
  have kp : ∀ o, Inv X pins σ H1 { s1 with heap := s1.heap.push o } := fun o => I1.kept (t' := s1.toks) fun b u e => Heap.get?_push_of_some _ e
  have fp : ∀ b ∈ [s1.heap.objs.size], FpOk X pins H1 b := fun b hb => by
    rw [show b = s1.heap.objs.size by simpa using hb]
    exact I1.fpOk (Nat.le_refl _) (I1.hok.fresh (Nat.le_refl _))
  rcases q1 with ⟨⟨xs, hq⟩, q⟩ | ⟨⟨xs, hq⟩, q⟩
  · obtain ⟨its, rv, pl, hz⟩ := I1.list hq
    exact wpAny_pyIter_list pl.isList ⟨_, _, _, _, H1, rfl, kp _, turn_list a _, ⟨_, Heap.get?_push_size _ rfl, rfl, rfl⟩, fp, q⟩
  · obtain ⟨its, rv, pl, hz⟩ := I1.tuple hq
    exact wpAny_pyIter_tuple (show s1.heap.IsTuple a its.toArray from pl) ⟨_, _, _, _, H1, rfl, kp _, turn_tuple a _, ⟨_, Heap.get?_push_size _ rfl, rfl, rfl⟩, fp, q⟩
theorem itOk_list {K : PySem.W.Frag} {F : Hp} {a : Addr} {vs : List V} {xs : List PV} (hs : SqL K F a vs) (hr : RepA K F vs xs) : ItOk K F tg (Itl K a) xs :=
  ⟨fun H i s h => by
    obtain ⟨x, hx, _⟩ := hr.get (List.getElem?_eq_getElem h)
    exact ⟨vs, x, s.seq hs, hx⟩, fun H i s h => ⟨vs, s.seq hs, by rw [hr.length]; exact h⟩, fun H i x H' p s y q => by
    obtain ⟨e, y⟩ := y
    obtain ⟨z, hz, hq⟩ := hr.get q
    have e2 := (y vs (s.seq hs)).symm.trans hz
    cases e2
    exact ⟨.inl e, .s hq, fun _ _ => hq⟩⟩
theorem itOk_tup {K : PySem.W.Frag} {F : Hp} {a : Addr} {vs : List V} {xs : List PV} (hs : SqT K F a vs) (hr : RepA K F vs xs) : ItOk K F tg (Itt K a) xs :=
  ⟨fun H i s h => by
    obtain ⟨x, hx, _⟩ := hr.get (List.getElem?_eq_getElem h)
    exact ⟨vs, x, same_sqT s hs, hx⟩, fun H i s h => ⟨vs, same_sqT s hs, by rw [hr.length]; exact h⟩, fun H i x H' p s y q => by
    obtain ⟨e, y⟩ := y
    obtain ⟨z, hz, hq⟩ := hr.get q
    have e2 := (y vs (same_sqT s hs)).symm.trans hz
    cases e2
    exact ⟨.inl e, .s hq, fun _ _ => hq⟩⟩
@[simp] def seqOf : PV → Option (List PV)
  | .list xs => some xs
  | .tuple xs => some xs
  | _ => none
@[simp] def iSeq (fa : En → RE PV) (ρ : En) : RE (List PV) := (fa ρ).bind fun v ρ1 => match seqOf v with | some xs => .ok xs ρ1 | none => .bad
theorem iv_seq (ha : EV X C .sh e fa) : IV X C tx tg e (iSeq fa) := by
  refine PI.imp (pi_seq ha) fun σ H R ⟨F, O, ρ, r, q⟩ => ?_
  unfold iSeq at q
  refine tE.bind r (fun v ρ1 F1 O1 H1 x e1 s1 r1 p1 => ?_) (fun c ρ1 e1 => ?_) fun e1 => ?_
  · rw [e1] at q
    simp only [RE.bind] at q
    have p1 : Rep X.K F1 x v := p1
    cases v with
    | list xs => cases p1 with | lst hs hr => exact ⟨_, rfl, .inl ⟨⟨_, .of (r1.sub _ _ hs)⟩, q F1 O1 H1 _ s1 r1 (itOk_list (.of hs) hr)⟩⟩
    | tuple xs => cases p1 with | tup hs hr => exact ⟨_, rfl, .inr ⟨⟨_, same_sqT r1.sub hs.sq⟩, q F1 O1 H1 _ s1 r1 (itOk_tup hs.sq hr)⟩⟩
    | _ => exact q.elim
  · rw [e1] at q; exact q
  · rw [e1] at q; exact q.elim
/-- ranges -/
def upTo (lo : Int) (n : Nat) : List PV := (List.range n).map fun i => .int (lo + (i : Nat))
theorem upTo_get {lo : Int} {n i : Nat} {p : PV} (h : (upTo lo n)[i]? = some p) : p = .int (lo + (i : Nat)) := by
  unfold upTo at h
  rw [List.getElem?_map] at h
  cases q : (List.range n)[i]? with
  | none => rw [q] at h; cases h
  | some j =>
    rw [q] at h
    obtain ⟨h1, h2⟩ := List.getElem?_eq_some_iff.mp q
    rw [List.getElem_range] at h2
    subst h2
    exact (Option.some.inj h).symm
theorem itOk_rng {K : PySem.W.Frag} {F : Hp} {lo : Int} {n : Nat} : ItOk K F tg (Itr lo n) (upTo lo n) :=
  ⟨fun H i s h => by show i < n; unfold upTo at h; simpa using h, fun H i s h => by show n ≤ i; unfold upTo at h; simpa using h, fun H i x H' p s y q => by
    obtain ⟨e, y⟩ := y
    rw [upTo_get q, y]
    exact ⟨.inl e, .s (.int _), fun _ _ => .int _⟩⟩
@[simp] def iR1 (fa : En → RE (List PV)) (ρ : En) : RE (List PV) := (fa ρ).bind fun v ρ1 => match v with | [.int j] => if -1000000000 ≤ j ∧ j ≤ 1000000000 then .ok (upTo 0 j.toNat) ρ1 else .bad | _ => .bad
@[simp] def iR2 (fa : En → RE (List PV)) (ρ : En) : RE (List PV) := (fa ρ).bind fun v ρ1 => match v with | [.int i, .int j] => if -1000000000 ≤ i ∧ i ≤ 1000000000 ∧ -1000000000 ≤ j ∧ j ≤ 1000000000 then .ok (upTo i (j - i).toNat) ρ1 else .bad | _ => .bad
theorem iv_r1 {a : Expr} {fa : En → RE (List PV)} (hg : Gl X "range") (hm : X.mg "range" = none) (ha : AV X C .rd [a] fa) (hs : starEach [a] X.env = [(false, eval a X.env)] := by rfl) : IV X C tx tg (.Call (.Name "range" p) [a] [] pos) (iR1 fa) := by
  refine PI.imp (pi_range1 hg hm ha hs) fun σ H R ⟨F, O, ρ, r, q⟩ => ?_
  unfold iR1 at q
  refine tA.bind r (fun v ρ1 F1 O1 H1 x e1 s1 r1 p1 => ?_) (fun c ρ1 e1 => ?_) fun e1 => ?_
  · rw [e1] at q
    simp only [RE.bind] at q
    split at q
    · split at q
      · obtain ⟨y, rfl, hy⟩ := RepRA.one p1
        exact ⟨_, by rw [hy.intE], by omega, by omega, q F1 O1 H1 _ s1 r1 itOk_rng⟩
      · exact q.elim
    · exact q.elim
  · rw [e1] at q; exact q
  · rw [e1] at q; exact q.elim
theorem iv_r2 {a b : Expr} {fa : En → RE (List PV)} (hg : Gl X "range") (hm : X.mg "range" = none) (ha : AV X C .rd [a, b] fa) (hs : starEach [a, b] X.env = [(false, eval a X.env), (false, eval b X.env)] := by rfl) (hs2 : starEach [b] X.env = [(false, eval b X.env)] := by rfl) :
    IV X C tx tg (.Call (.Name "range" p) [a, b] [] pos) (iR2 fa) := by
  refine PI.imp (pi_range2 hg hm ha hs hs2) fun σ H R ⟨F, O, ρ, r, q⟩ => ?_
  unfold iR2 at q
  refine tA.bind r (fun v ρ1 F1 O1 H1 x e1 s1 r1 p1 => ?_) (fun c ρ1 e1 => ?_) fun e1 => ?_
  · rw [e1] at q
    simp only [RE.bind] at q
    split at q
    · split at q
      · obtain ⟨y, z, rfl, hy, hz⟩ := RepRA.two p1
        exact ⟨_, _, by rw [hy.intE, hz.intE], by omega, q F1 O1 H1 _ s1 r1 itOk_rng⟩
      · exact q.elim
    · exact q.elim
  · rw [e1] at q; exact q
  · rw [e1] at q; exact q.elim
/-- zip of two lists, or of two tuples, both shared -/
def zipP : List PV → List PV → List PV
  | x :: xs, y :: ys => .tuple [x, y] :: zipP xs ys
  | _, _ => []
theorem zipP_get : ∀ {xs ys : List PV} {i : Nat} {p : PV}, (zipP xs ys)[i]? = some p → ∃ a b, xs[i]? = some a ∧ ys[i]? = some b ∧ p = .tuple [a, b]
  | [], _, _, _, h => by simp [zipP] at h
  | _ :: _, [], _, _, h => by simp [zipP] at h
  | x :: xs, y :: ys, 0, p, h => by simp [zipP] at h; exact ⟨x, y, rfl, rfl, h.symm⟩
  | x :: xs, y :: ys, i + 1, p, h => by
    obtain ⟨a, b, h1, h2, h3⟩ := zipP_get (i := i) (by simpa [zipP] using h)
    exact ⟨a, b, by simpa using h1, by simpa using h2, h3⟩
theorem zipP_len : ∀ {xs ys : List PV}, (zipP xs ys).length = min xs.length ys.length
  | [], _ => by simp [zipP]
  | _ :: _, [] => by simp [zipP]
  | x :: xs, y :: ys => by simp [zipP, zipP_len (xs := xs) (ys := ys)]
theorem itOk_zip {K : PySem.W.Frag} {F : Hp} {a b : Addr} {vs ws : List V} {xs ys : List PV} (is : List Nat) (ha : SqL K F a vs) (hb : SqL K F b ws) (qa : RepA K F vs xs) (qb : RepA K F ws ys) : ItOk K F (.t is) (Itz K a b) (zipP xs ys) := by
  refine ⟨fun H i s h => ?_, fun H i s h => ⟨vs, ws, s.seq ha, s.seq hb, ?_⟩, fun H i x H' p s y q => ?_⟩
  · rw [zipP_len] at h
    obtain ⟨x, hx, _⟩ := qa.get (List.getElem?_eq_getElem (show i < xs.length by omega))
    obtain ⟨y, hy, _⟩ := qb.get (List.getElem?_eq_getElem (show i < ys.length by omega))
    exact ⟨vs, ws, x, y, s.seq ha, s.seq hb, hx, hy⟩
  · rw [zipP_len] at h
    rw [qa.length, qb.length]; omega
  · obtain ⟨T, x', y', e1, n, e2, h1, h2⟩ := y
    obtain ⟨u, v, hu, hv, ep⟩ := zipP_get q
    obtain ⟨x2, hx2, px⟩ := qa.get hu
    obtain ⟨y2, hy2, py⟩ := qb.get hv
    have ex := (h1 vs (s.seq ha)).symm.trans hx2
    have ey := (h2 ws (s.seq hb)).symm.trans hy2
    cases ex; cases ey
    subst e1 e2 ep
    exact ⟨.inr ⟨T, _, n, rfl⟩, .t (.of upd_same) (.cons px (.cons py .nil)), fun _ z => nomatch z⟩
theorem itOk_zipT {K : PySem.W.Frag} {F : Hp} {a b : Addr} {vs ws : List V} {xs ys : List PV} (is : List Nat) (ha : SqT K F a vs) (hb : SqT K F b ws) (qa : RepA K F vs xs) (qb : RepA K F ws ys) : ItOk K F (.t is) (RZ.ItzT K a b) (zipP xs ys) := by
  refine ⟨fun H i s h => ?_, fun H i s h => ⟨vs, ws, same_sqT s ha, same_sqT s hb, ?_⟩, fun H i x H' p s y q => ?_⟩
  · rw [zipP_len] at h
    obtain ⟨x, hx, _⟩ := qa.get (List.getElem?_eq_getElem (show i < xs.length by omega))
    obtain ⟨y, hy, _⟩ := qb.get (List.getElem?_eq_getElem (show i < ys.length by omega))
    exact ⟨vs, ws, x, y, same_sqT s ha, same_sqT s hb, hx, hy⟩
  · rw [zipP_len] at h
    rw [qa.length, qb.length]; omega
  · obtain ⟨T, x', y', e1, n, e2, h1, h2⟩ := y
    obtain ⟨u, v, hu, hv, ep⟩ := zipP_get q
    obtain ⟨x2, hx2, px⟩ := qa.get hu
    obtain ⟨y2, hy2, py⟩ := qb.get hv
    have ex := (h1 vs (same_sqT s ha)).symm.trans hx2
    have ey := (h2 ws (same_sqT s hb)).symm.trans hy2
    cases ex; cases ey
    subst e1 e2 ep
    exact ⟨.inr ⟨T, _, n, rfl⟩, .t (.of upd_same) (.cons px (.cons py .nil)), fun _ z => nomatch z⟩
@[simp] def iZip (fa : En → RE (List PV)) (ρ : En) : RE (List PV) := (fa ρ).bind fun v ρ1 => match v with
  | [.list xs, .list ys] => .ok (zipP xs ys) ρ1
  | [.tuple xs, .tuple ys] => .ok (zipP xs ys) ρ1
  | _ => .bad
theorem iv_zip {e e2 : Expr} {es : List Expr} {kk : Nat} {tpos : Pos} {is : List Nat} {fa : En → RE (List PV)} (hg : Gl X "zip") (hm : X.mg "zip" = none) (ha : AV X C .sh [e, e2] fa)
    (hs : starEach [e, e2] X.env = (false, eval e X.env) :: starEach [e2] X.env := by rfl) (hpl : (backTo pos (starEach [e2] X.env)).any (·.1) = false := by rfl) : IV X C (.Tuple es kk tpos) (.t is) (.Call (.Name "zip" p) [e, e2] [] pos) (iZip fa) := by
  refine PI.imp (RZ.pi_zipA hg hm ha hs hpl) fun σ H R ⟨F, O, ρ, r, q⟩ => ?_
  unfold iZip at q
  refine tA.bind r (fun v ρ1 F1 O1 H1 x e1 s1 r1 p1 => ?_) (fun c ρ1 e1 => ?_) fun e1 => ?_
  · rw [e1] at q
    simp only [RE.bind] at q
    have p1 : RepA X.K F1 x v := p1
    split at q
    · cases p1 with
      | cons a b => cases b with
        | cons b c =>
          cases c
          cases a with | lst ha qa => cases b with | lst hb qb => exact ⟨_, _, _, _, rfl, .inl ⟨.of (r1.sub _ _ ha), .of (r1.sub _ _ hb), q F1 O1 H1 _ s1 r1 (itOk_zip is (.of ha) (.of hb) qa qb)⟩⟩
    · cases p1 with
      | cons a b => cases b with
        | cons b c =>
          cases c
          cases a with | tup ha qa => cases b with | tup hb qb => exact ⟨_, _, _, _, rfl, .inr ⟨same_sqT r1.sub ha.sq, same_sqT r1.sub hb.sq, q F1 O1 H1 _ s1 r1 (itOk_zipT is ha.sq hb.sq qa qb)⟩⟩
    · exact q.elim
  · rw [e1] at q; exact q
  · rw [e1] at q; exact q.elim
end

/-! ### for -/
def forL (tg : Tg) (g : En → SR) : List PV → En → SR
  | [], ρ => .nx ρ
  | x :: xs, ρ => match tg.put x ρ with
    | none => .bad
    | some ρ1 => match g ρ1 with
      | .nx ρ2 => forL tg g xs ρ2
      | .ct ρ2 => forL tg g xs ρ2
      | .bk ρ2 => .nx ρ2
      | r => r
@[simp] def sFor (tg : Tg) (it : En → RE (List PV)) (g : En → SR) (ρ : En) : SR := match it ρ with
  | .ok xs ρ1 => forL tg g xs ρ1
  | .exc c ρ1 => .exc c ρ1
  | .bad => .bad
theorem sv_for {X : Cx} {C : Cf} {tx iter : Expr} {body : List Stmt} {tg : Tg} {it : En → RE (List PV)} {g : En → SR} {pos : Pos} (hp : PassesOwn (model X.prog X.w) X.A X.env X.xe) (hc : X.calm = true) (hi : IV X C tx tg iter it) (hg : GV X tx tg) (hio : ∀ i ∈ tg.slots, i ∉ C.ioS) (hb : SVs X C body g)
    (hs : ∀ x, foldedSetIterable iter X.env x = pure x := by intro _; rfl) : SV X C (.For tx iter body [] pos) (sFor tg it g) := by
  refine PS.imp (ps_for hp hc hi hg hb hs) fun D σ H ⟨F, O, ρ, r, q⟩ => ?_
  unfold sFor at q
  refine ⟨F, O, ρ, r, ?_⟩
  cases ef : it ρ with
  | exc c ρ1 => rw [ef] at q; exact exc_s q
  | bad => rw [ef] at q; exact q
  | ok xs ρ1 =>
    rw [ef] at q
    intro F1 O1 H1 J s1 r1 ok
    -- the turns
    refine ⟨fun i m σ' H' => m = xs.length - i ∧ i ≤ xs.length ∧ ∃ F2 O2 ρ2, Step F H O F2 H' O2 ∧ Same F1 F2 ∧ Rel X.K C F2 O2 σ' H' ρ2 ∧ PostS X.K C F H O D σ (forL tg g (xs.drop i) ρ2), ⟨xs.length, rfl, Nat.zero_le _, F1, O1, ρ1, s1, .refl _, r1, q⟩, ?_⟩
    rintro i m σ' H' ⟨rfl, hi', F2, O2, ρ2, s2, e2, r2, q2⟩
    have ok2 := ok.mono e2
    by_cases hlt : i < xs.length
    · refine .inr ⟨ok2.go H' i r2.sub hlt, fun σ3 H3 => ∃ F3 O3 ρ3, Step F H O F3 H3 O3 ∧ Same F1 F3 ∧ Rel X.K C F3 O3 σ3 H3 ρ3 ∧ PostS X.K C F H O D σ (forL tg g (xs.drop (i + 1)) ρ3), fun σ3 H3 ⟨F3, O3, ρ3, a, b, c, d⟩ => ⟨xs.length - (i + 1), by omega, rfl, hlt, F3, O3, ρ3, a, b, c, d⟩, fun x H3 y => ?_⟩
      have hx : xs[i]? = some xs[i] := List.getElem?_eq_getElem hlt
      obtain ⟨hH, hy, hn⟩ := ok2.yld H' i x H3 _ r2.sub y hx
      rw [List.drop_eq_getElem_cons hlt] at q2
      unfold forL at q2
      -- the heap may have one more object
      obtain ⟨s3, r3⟩ : Step F2 H' O2 F2 H3 O2 ∧ Rel X.K C F2 O2 σ' H3 ρ2 := by
        rcases hH with e | ⟨T, o, n, e⟩
        · subst e; exact ⟨.refl, r2⟩
        · subst e; exact ⟨(r2.alloc n).2, (r2.alloc n).1⟩
      cases ep : tg.put xs[i] ρ2 with
      | none => rw [ep] at q2; exact q2.elim
      | some ρ3 =>
        rw [ep] at q2
        simp only at q2
        refine tg_put [] r3 hy hn ep hio fun σ4 O4 s4 r4 _ => ⟨F2, O4, ρ3, r4, ?_⟩
        have sT := s2.trans (s3.trans s4)
        cases e5 : g ρ3 with
        | nx ρ5 => rw [e5] at q2; exact fun F5 O5 σ5 H5 s5 r5 => ⟨F5, O5, ρ5, sT.trans s5, e2.trans s5.ext, r5, q2⟩
        | ct ρ5 => rw [e5] at q2; exact fun F5 O5 σ5 H5 s5 r5 => ⟨F5, O5, ρ5, sT.trans s5, e2.trans s5.ext, r5, q2⟩
        | bk ρ5 => rw [e5] at q2; exact fun F5 O5 σ5 H5 s5 r5 => q2 F5 O5 σ5 H5 (sT.trans s5) r5
        | ret v ρ5 => rw [e5] at q2; exact fun F5 O5 σ5 H5 x s5 r5 p5 => q2 F5 O5 σ5 H5 x (sT.trans s5) r5 (p5.from sT)
        | exc c ρ5 => rw [e5] at q2; exact fun F5 O5 σ5 H5 s5 r5 => q2 F5 O5 σ5 H5 (sT.trans s5) r5
        | bad => rw [e5] at q2; exact q2
    · have e : i = xs.length := by omega
      subst e
      rw [List.drop_length] at q2
      exact .inl ⟨ok2.stop H' _ r2.sub (Nat.le_refl _), q2 F2 O2 σ' H' s2 r2⟩

/-! ### list comprehensions -/
@[simp] def wipeE (ρ : En) : List Nat → En
  | [] => ρ
  | v :: vs => (wipeE ρ vs).set v none
@[simp] def restE (ρ0 : En) : List Nat → En → En
  | [], ρ => ρ
  | v :: vs, ρ => (restE ρ0 vs ρ).set v (match ρ0[v]? with | some (some (.s p)) => some (.s p) | _ => none)
def freeOs (O : Own) (vs : List Nat) : Own := fun j => if j ∈ vs then none else O j
theorem freeOs_le {O : Own} {vs : List Nat} {j : Nat} {a : Addr} (h : freeOs O vs j = some a) : O j = some a ∧ j ∉ vs := by
  unfold freeOs at h
  split at h
  · cases h
  · exact ⟨h, by assumption⟩
theorem wipeE_get {ρ : En} {j : Nat} {p : Sv} : ∀ {vs : List Nat}, (wipeE ρ vs)[j]? = some (some p) → ρ[j]? = some (some p) ∧ j ∉ vs
  | [], h => ⟨h, by simp⟩
  | v :: vs, h => by
    rcases getElem_set h with ⟨_, z, _⟩ | ⟨n, h⟩
    · cases z
    · obtain ⟨h1, h2⟩ := wipeE_get h
      exact ⟨h1, fun z => (List.mem_cons.mp z).elim n h2⟩
theorem wipeE_length (ρ : En) : ∀ vs : List Nat, (wipeE ρ vs).length = ρ.length
  | [] => rfl
  | v :: vs => by unfold wipeE; rw [List.length_set, wipeE_length ρ vs]
theorem restE_length (ρ0 ρ : En) : ∀ vs : List Nat, (restE ρ0 vs ρ).length = ρ.length
  | [] => rfl
  | v :: vs => by unfold restE; rw [List.length_set, restE_length ρ0 ρ vs]
theorem restE_get {ρ0 ρ : En} {j : Nat} {p : Sv} : ∀ {vs : List Nat}, (restE ρ0 vs ρ)[j]? = some (some p) → (j ∈ vs ∧ ρ0[j]? = some (some p) ∧ ∃ w, p = .s w) ∨ (j ∉ vs ∧ ρ[j]? = some (some p))
  | [], h => .inr ⟨by simp, h⟩
  | v :: vs, h => by
    rcases getElem_set h with ⟨e, z, _⟩ | ⟨n, h⟩
    · subst e
      split at z
      · rename_i w hw
        cases z
        exact .inl ⟨List.mem_cons_self, hw, w, rfl⟩
      · cases z
    · rcases restE_get h with ⟨a, b⟩ | ⟨a, b⟩
      · exact .inl ⟨List.mem_cons_of_mem _ a, b⟩
      · exact .inr ⟨fun z => (List.mem_cons.mp z).elim n a, b⟩
section
variable {K : PySem.W.Frag} {C : Cf} {F H F' H' : Hp} {O O' : Own} {σ : L2.St} {ρ ρ' : En} {vs : List Nat}
theorem wipe_get {σ : L2.St} {j : Nat} : ∀ {vs : List Nat}, j ∉ vs → (wipe σ vs)[j]? = σ[j]?
  | [], _ => rfl
  | v :: vs, h => by
    unfold wipe
    rw [List.getElem?_set_ne (fun e => h (by rw [e]; exact List.mem_cons_self)), wipe_get fun z => h (List.mem_cons_of_mem _ z)]
theorem Rel.wipe (r : Rel K C F O σ H ρ) (hi : ∀ i ∈ vs, i ∉ C.ioS) : Rel K C F (freeOs O vs) (L2.wipe σ vs) H (wipeE ρ vs) := by
  refine ⟨r.sub, by rw [wipeE_length, wipe_length]; exact r.len, fun j p h => ?_, fun j k a h1 h2 => r.inj j k a (freeOs_le h1).1 (freeOs_le h2).1, fun j a h => r.out j a (freeOs_le h).1, fun p hp => ?_, r.tabs, r.nt⟩
  · obtain ⟨h1, h2⟩ := wipeE_get h
    obtain ⟨v, h3, h4⟩ := r.sl j p h1
    refine ⟨v, by rw [wipe_get h2]; exact h3, ?_⟩
    unfold freeOs; rw [if_neg h2]; exact h4
  · unfold freeOs
    rw [if_neg fun z => hi p.1 z (List.of_mem_zip (show (p.1, p.2) ∈ C.ioS.zip C.ioA from hp)).1]
    exact r.io p hp
theorem step_frees : Step F H O F H (freeOs O vs) := ⟨.refl _, fun _ h => .inl h, fun _ _ h _ => .inl h, fun j a h => .inl ⟨j, (freeOs_le h).1⟩⟩
/-- back from the block -/
theorem Rel.rest (r : Rel K C F O σ H ρ) (e : Same F F') (r' : Rel K C F' O' (L2.wipe σ vs) H' ρ') (hi : ∀ i ∈ vs, i ∉ C.ioS) : Rel K C F' (freeOs O' vs) σ H' (restE ρ vs ρ') := by
  refine ⟨r'.sub, by rw [restE_length, r'.len, wipe_length], fun j p h => ?_, fun j k a h1 h2 => r'.inj j k a (freeOs_le h1).1 (freeOs_le h2).1, fun j a h => r'.out j a (freeOs_le h).1, fun p hp => ?_, r'.tabs, r'.nt⟩
  · rcases restE_get h with ⟨h1, h2, w, rfl⟩ | ⟨h1, h2⟩
    · obtain ⟨v, h3, h4⟩ := r.sl j _ h2
      cases h4 with | s z => exact ⟨v, h3, .s (z.mono e)⟩
    · obtain ⟨v, h3, h4⟩ := r'.sl j p h2
      refine ⟨v, by rw [← wipe_get h1]; exact h3, ?_⟩
      unfold freeOs; rw [if_neg h1]; exact h4
  · unfold freeOs
    rw [if_neg fun z => hi p.1 z (List.of_mem_zip (show (p.1, p.2) ∈ C.ioS.zip C.ioA from hp)).1]
    exact r'.io p hp
end
/-- the items that a comprehension makes -/
def lcL (tg : Tg) (vs : List Nat) (gt : En → RE Bool) (fe : En → RE PV) : List PV → En → RE (List PV)
  | [], ρ => .ok [] ρ
  | x :: xs, ρ => match tg.put x ρ with
    | none => .bad
    | some ρ1 => match gt ρ1 with
      | .ok true ρ2 => (match fe ρ2 with
        | .ok v ρ3 => (match lcL tg vs gt fe xs (wipeE ρ3 vs) with | .ok ws ρ4 => .ok (v :: ws) ρ4 | _ => .bad)
        | _ => .bad)
      | .ok false ρ2 => lcL tg vs gt fe xs (wipeE ρ2 vs)
      | _ => .bad
@[simp] def bYes (ρ : En) : RE Bool := .ok true ρ
def NV (X : Cx) (C : Cf) (ifs : List Expr) (gt : En → RE Bool) : Prop := PTs X ifs (tB' X.K C gt)
theorem nv_nil {X : Cx} {C : Cf} : NV X C [] bYes := ⟨fun pins s σ H Q I ⟨F, O, ρ, r, q⟩ => pts_nil.run pins s σ H Q I (q F O H .refl r)⟩
theorem nv_one {X : Cx} {C : Cf} {c : Expr} {gt : En → RE Bool} (h : TV X C c gt) : NV X C [c] gt := pts_one h
@[simp] def eLC (tg : Tg) (vs : List Nat) (it : En → RE (List PV)) (gt : En → RE Bool) (fe : En → RE PV) (ρ : En) : RE PV := match it ρ with
  | .ok xs ρ1 => if xs.length ≤ 16777216 then (match lcL tg vs gt fe xs (wipeE ρ1 vs) with | .ok ws ρ2 => .ok (.list ws) (restE ρ1 vs ρ2) | _ => .bad) else .bad
  | .exc c ρ1 => .exc c ρ1
  | .bad => .bad
section
variable {X : Cx} {C : Cf} {elt tx iter : Expr} {ifs : List Expr} {scope : Scope} {own : List (Str × Nat)} {tg : Tg} {it : En → RE (List PV)} {gt : En → RE Bool} {fe : En → RE PV} {pos : Pos}
theorem lc_read {σ : L2.St} {H : Hp} {Q : VK} {vs : List Nat} (hv : ∀ i ∈ tg.slots, i ∈ vs) (hio : ∀ i ∈ vs, i ∉ C.ioS) (h : tE X.K C .fr (eLC tg vs it gt fe) σ H Q) :
    tLc (tI X.K C tg it) (gTg X.K tg) (tB' X.K C.nox gt) (tE X.K C.nox .sh fe) vs σ H Q := by
  obtain ⟨F, O, ρ, r, q⟩ := h
  unfold eLC at q
  refine ⟨F, O, ρ, r, ?_⟩
  cases ef : it ρ with
  | exc c ρ1 => rw [ef] at q; exact q
  | bad => rw [ef] at q; exact q
  | ok xs ρ1 =>
    rw [ef] at q
    simp only at q
    split at q
    case isFalse => exact q.elim
    rename_i hz
    cases el : lcL tg vs gt fe xs (wipeE ρ1 vs) with
    | exc c ρ2 => rw [el] at q; exact q.elim
    | bad => rw [el] at q; exact q.elim
    | ok total ρe =>
      rw [el] at q
      simp only at q
      intro F1 O1 H1 J s1 r1 ok D nD
      obtain ⟨FD, ODn⟩ := r1.free nD
      -- the block's start
      have rD := (r1.alloc (o := .lst []) nD).1
      have sD := (r1.alloc (o := .lst []) nD).2
      refine ⟨fun i m H' => m = xs.length - i ∧ i ≤ xs.length ∧ ∃ F2 O2 ρ2 acc accV, Step F1 H1 O1 F2 H' O2 ∧ Rel X.K C F2 O2 (wipe σ vs) H' ρ2 ∧ F2 D = none ∧ (∀ j, O2 j ≠ some D) ∧ H' D = some (.lst accV) ∧ RepA X.K F2 accV acc ∧ acc.length ≤ i ∧
        ∃ ws, lcL tg vs gt fe (xs.drop i) ρ2 = .ok ws ρe ∧ total = acc ++ ws, ⟨xs.length, rfl, Nat.zero_le _, F1, freeOs O1 vs, wipeE ρ1 vs, [], [], sD.trans step_frees, rD.wipe hio, FD, fun j z => ODn j (freeOs_le z).1, upd_same, .nil, Nat.le_refl _, total, el, rfl⟩, ?_⟩
      rintro i m H' ⟨rfl, hi', F2, O2, ρ2, acc, accV, s2, r2, nF, nO, hD, hacc, hle, ws, hws, htot⟩
      have ok2 := ok.mono s2.ext
      by_cases hlt : i < xs.length
      · refine .inr ⟨ok2.go H' i r2.sub hlt, fun H3 => ∃ F3 O3 ρ3 acc3 accV3, Step F1 H1 O1 F3 H3 O3 ∧ Rel X.K C F3 O3 (wipe σ vs) H3 ρ3 ∧ F3 D = none ∧ (∀ j, O3 j ≠ some D) ∧ H3 D = some (.lst accV3) ∧ RepA X.K F3 accV3 acc3 ∧ acc3.length ≤ i + 1 ∧
          ∃ ws, lcL tg vs gt fe (xs.drop (i + 1)) ρ3 = .ok ws ρe ∧ total = acc3 ++ ws, fun H3 ⟨F3, O3, ρ3, a, b, c⟩ => ⟨xs.length - (i + 1), by omega, rfl, hlt, F3, O3, ρ3, a, b, c⟩, fun x H3 y => ?_⟩
        have hx : xs[i]? = some xs[i] := List.getElem?_eq_getElem hlt
        obtain ⟨hH, hy, hn⟩ := ok2.yld H' i x H3 _ r2.sub y hx
        rw [List.drop_eq_getElem_cons hlt] at hws
        unfold lcL at hws
        obtain ⟨s3, r3⟩ : Step F2 H' O2 F2 H3 O2 ∧ Rel X.K C F2 O2 (wipe σ vs) H3 ρ2 := by
          rcases hH with e | ⟨T, o, n, e⟩
          · subst e; exact ⟨.refl, r2⟩
          · subst e; exact ⟨(r2.alloc n).2, (r2.alloc n).1⟩
        cases ep : tg.put xs[i] ρ2 with
        | none => rw [ep] at hws; cases hws
        | some ρ3 =>
          rw [ep] at hws
          simp only at hws
          -- what stays of the list that is made, over a step
          have stay : ∀ {F5 H5 : Hp} {O5 : Own}, Step F2 H' O2 F5 H5 O5 → H5 D = some (.lst accV) ∧ F5 D = none ∧ ∀ j, O5 j ≠ some D := fun {F5 H5 O5} s5 => by
            refine ⟨(s5.frm D _ hD nO).same (fun _ z => nomatch z), ?_, fun j z => ?_⟩
            · cases qq : F5 D with
              | none => rfl
              | some u =>
                rcases s5.new D (by rw [qq]; exact fun z => nomatch z) with z | (z | ⟨j, z⟩)
                · exact absurd nF z
                · exact (z.no hD fun _ z => nomatch z).elim
                · exact absurd z (nO j)
            · rcases s5.own j D z with ⟨k, w⟩ | w
              · exact nO k w
              · exact w.no hD fun _ z => nomatch z
          refine tg_put vs r3 hy hn ep (fun j hj => hio j (hv j hj)) fun σ4 O4 s4 r4 hw4 => ⟨by rw [hw4 hv, Fx.wipe_idem], F2, O4, ρ3, r4.nox, ?_⟩
          have s24 := s3.trans s4
          cases e5 : gt ρ3 with
          | exc c ρ5 => rw [e5] at hws; cases hws
          | bad => rw [e5] at hws; cases hws
          | ok b ρ5 =>
            rw [e5] at hws
            intro F5 O5 H5 s5 r5
            have s25 := s24.trans s5
            cases b with
            | false =>
              simp only [Bool.false_eq_true, if_false] at hws ⊢
              obtain ⟨a1, a2, a3⟩ := stay s25
              have r5' := (r5.unnox.wipe hio)
              rw [hw4 hv, Fx.wipe_idem] at r5'
              exact ⟨F5, _, _, acc, accV, (s2.trans s25).trans step_frees, r5', a2, fun j z => a3 j (freeOs_le z).1, a1, hacc.mono s25.ext, by omega, ws, hws, htot⟩
            | true =>
              simp only [if_true] at hws ⊢
              refine ⟨F5, O5, ρ5, r5, ?_⟩
              cases e6 : fe ρ5 with
              | exc c ρ6 => rw [e6] at hws; cases hws
              | bad => rw [e6] at hws; cases hws
              | ok v ρ6 =>
                rw [e6] at hws
                simp only at hws
                cases e7 : lcL tg vs gt fe (xs.drop (i + 1)) (wipeE ρ6 vs) with
                | exc c ρ7 => rw [e7] at hws; cases hws
                | bad => rw [e7] at hws; cases hws
                | ok ws' ρ7 =>
                  rw [e7] at hws
                  cases hws
                  intro F6 O6 H6 z s6 r6 p6
                  have p6 : Rep X.K F6 z v := p6
                  have s26 := s25.trans s6
                  obtain ⟨a1, a2, a3⟩ := stay s26
                  refine ⟨accV, a1, by rw [hacc.length, sizeLine_eq]; omega, ?_⟩
                  have r6' := (r6.unnox.wipe hio)
                  rw [hw4 hv, Fx.wipe_idem] at r6'
                  have nn : ∀ j, freeOs O6 vs j ≠ some D := fun j z => a3 j (freeOs_le z).1
                  -- the list is written
                  have rW : Rel X.K C F6 (freeOs O6 vs) (wipe σ vs) (upd H6 D (.lst (accV ++ [z]))) (wipeE ρ6 vs) := by
                    refine ⟨fun b u h => ?_, r6'.len, fun j p h => ?_, r6'.inj, fun j b h => ?_, r6'.io, tabs_upd r6'.tabs (fun ps z => by rw [a1] at z; cases z) (fun φ z => by rw [a1] at z; cases z), r6'.nt⟩
                    · rw [upd_ne fun e => by rw [e, a2] at h; cases h]; exact r6'.sub b u h
                    · obtain ⟨v', h3, h4⟩ := r6'.sl j p h
                      exact ⟨v', h3, h4.mono (.refl _) fun b hb => by rw [upd_ne fun e => nn j (by rw [← e]; exact hb)]⟩
                    · rw [upd_ne fun e => nn j (by rw [← e]; exact h)]; exact r6'.out j b h
                  have sW : Step F1 H1 O1 F6 (upd H6 D (.lst (accV ++ [z]))) (freeOs O6 vs) := by
                    have s16 := (s2.trans s26).trans (step_frees (vs := vs))
                    refine ⟨s16.ext, s16.new, fun b u h n => ?_, s16.own⟩
                    rw [upd_ne fun e => by rw [e, nD] at h; cases h]; exact s16.frm b u h n
                  exact ⟨F6, _, _, acc ++ [v], accV ++ [z], sW, rW, a2, nn, upd_same, (hacc.mono s26.ext).append (.cons p6 .nil), by rw [List.length_append]; simp; omega, ws', e7, by rw [htot, List.append_assoc]; rfl⟩
      · have e : i = xs.length := by omega
        subst e
        rw [List.drop_length] at hws
        unfold lcL at hws
        cases hws
        rw [List.append_nil] at htot
        subst htot
        refine .inl ⟨ok2.stop H' _ r2.sub (Nat.le_refl _), ?_⟩
        have rE := r1.rest s2.ext r2 hio
        exact q F2 _ H' _ (s1.trans (s2.trans step_frees)) rE ⟨D, rfl, (show NewAt H1 O1 D from .inl (.none nD)).back s1, nF, fun j z => nO j (freeOs_le z).1, .lst hD hacc⟩
end
end Fx

/-! part Fw6 -/
namespace Fx
open PySem PySem.Spec PyProof.Rows L2

section
variable {X : Cx} {C : Cf} {elt tx iter : Expr} {ifs : List Expr} {scope : Scope} {own : List (Str × Nat)} {tg : Tg} {it : En → RE (List PV)} {gt : En → RE Bool} {fe : En → RE PV} {pos : Pos}
abbrev AllBlk (X : Cx) (scope : Scope) (p : Cx → Prop) : Prop := ∀ (s : Shared) (H : Hp) (D : Addr) (cl : List (Str × Addr)) (fp : List Addr), p (X.blk s H scope (compEnvC scope cl D X.env) fp)
theorem ev_lc (vs : List Nat) (hvs : own.map (·.2) = vs) (hc : X.calm = true) (hN : X.N.Nodup) (hi : IV X C tx tg iter it) (ok : BlkOk X.N X.env.scope scope own) (hv : ∀ i ∈ tg.slots, i ∈ vs) (hio : ∀ i ∈ vs, i ∉ C.ioS)
    (hg : AllBlk X scope fun Y => GV Y tx tg) (ht : AllBlk X scope fun Y => NV Y C.nox ifs gt) (he : AllBlk X scope fun Y => EV Y C.nox .sh elt fe) (hs : ∀ x, foldedSetIterable iter X.env x = pure x := by intro _; rfl) :
    EV X C .fr (.ListComp elt [⟨tx, iter, ifs, 0⟩] scope pos) (eLC tg vs it gt fe) := by
  subst hvs
  exact PE.imp (pe_lc (g := gTg X.K tg) (tt := tB' X.K C.nox gt) (te := tE X.K C.nox .sh fe) hc hN hi ok hg ht he hs) fun σ H Q h => lc_read hv hio h
/-- y = [..] -/
theorem sv_lc {i : Nat} {y : Str} {py : Pos} {spos : Pos} (vs : List Nat) (hvs : own.map (·.2) = vs) (hc : X.calm = true) (hN : X.N.Nodup) (hy : X.N[i]? = some y) (hyl : X.env.scope.names.lookup y = some .local) (hyi : i ∉ C.ioS)
    (hsw : swapsWith (.ListComp elt [⟨tx, iter, ifs, 0⟩] scope pos) (some (.Name y py)) spos.line X.env = pure true) (hi : IV X C tx tg iter it) (ok : BlkOk X.N X.env.scope scope own) (hv : ∀ i ∈ tg.slots, i ∈ vs) (hio : ∀ i ∈ vs, i ∉ C.ioS)
    (hg : AllBlk X scope fun Y => GV Y tx tg) (ht : AllBlk X scope fun Y => NV Y C.nox ifs gt) (he : AllBlk X scope fun Y => EV Y C.nox .sh elt fe) (hs : ∀ x, foldedSetIterable iter X.env x = pure x := by intro _; rfl) :
    SV X C (.Assign [.Name y py] (.ListComp elt [⟨tx, iter, ifs, 0⟩] scope pos) spos) (sAsgO i (eLC tg vs it gt fe)) := by
  subst hvs
  refine PS.imp (ps_setLc (g := gTg X.K tg) (tt := tB' X.K C.nox gt) (te := tE X.K C.nox .sh fe) hc hN hy hyl hsw hi ok hg ht he hs) fun D σ H ⟨F, O, ρ, r, q⟩ => ?_
  refine lc_read hv hio ?_
  unfold sAsgO at q
  refine tE.bind r (fun v ρ1 F1 O1 H1 z e1 s1 r1 p1 => ?_) (fun c ρ1 e1 => ?_) fun e1 => ?_
  · rw [e1] at q
    obtain ⟨a, rfl, fr⟩ := p1
    obtain ⟨s2, r2⟩ := Rel.putO s1 r1 hyi fr
    exact q F1 _ _ H1 s2 r2
  · rw [e1] at q; exact exc_s q
  · rw [e1] at q; exact q.elim
/-- .. shared from the start -/
theorem sv_lcs {i : Nat} {y : Str} {py : Pos} {spos : Pos} (vs : List Nat) (hvs : own.map (·.2) = vs) (hc : X.calm = true) (hN : X.N.Nodup) (hy : X.N[i]? = some y) (hyl : X.env.scope.names.lookup y = some .local) (hyi : i ∉ C.ioS)
    (hsw : swapsWith (.ListComp elt [⟨tx, iter, ifs, 0⟩] scope pos) (some (.Name y py)) spos.line X.env = pure true) (hi : IV X C tx tg iter it) (ok : BlkOk X.N X.env.scope scope own) (hv : ∀ i ∈ tg.slots, i ∈ vs) (hio : ∀ i ∈ vs, i ∉ C.ioS)
    (hg : AllBlk X scope fun Y => GV Y tx tg) (ht : AllBlk X scope fun Y => NV Y C.nox ifs gt) (he : AllBlk X scope fun Y => EV Y C.nox .sh elt fe) (hs : ∀ x, foldedSetIterable iter X.env x = pure x := by intro _; rfl) :
    SV X C (.Assign [.Name y py] (.ListComp elt [⟨tx, iter, ifs, 0⟩] scope pos) spos) (sAsg i (eLC tg vs it gt fe)) := by
  subst hvs
  refine PS.imp (ps_setLc (g := gTg X.K tg) (tt := tB' X.K C.nox gt) (te := tE X.K C.nox .sh fe) hc hN hy hyl hsw hi ok hg ht he hs) fun D σ H ⟨F, O, ρ, r, q⟩ => ?_
  refine lc_read hv hio ?_
  unfold sAsg at q
  refine tE.bind r (fun v ρ1 F1 O1 H1 z e1 s1 r1 p1 => ?_) (fun c ρ1 e1 => ?_) fun e1 => ?_
  · rw [e1] at q
    obtain ⟨a, rfl, fr⟩ := p1
    obtain ⟨F2, s2, r2, p2, _⟩ := fr.share s1 r1
    exact q F2 _ _ H1 (step_freeO s2) (r2.putS hyi p2)
  · rw [e1] at q; exact exc_s q
  · rw [e1] at q; exact q.elim
end

/-! ### a, b = value -/
section
variable {X : Cx} {C : Cf} {e : Expr} {es : List Expr} {f : En → RE PV} {pos : Pos}
@[simp] def sTup (is : List Nat) (f : En → RE PV) (ρ : En) : SR := (f ρ).toS fun v ρ1 => match Tg.put (.t is) v ρ1 with | some ρ2 => .nx ρ2 | none => .bad
theorem sv_tup {tx : Expr} {is : List Nat} (h : EV X C .sh e f) (hg : GV X tx (.t is)) (hio : ∀ i ∈ is, i ∉ C.ioS) (hs : swapsWithSole [tx] e pos.line X.env = pure false := by rfl) (hw : swappedStores [tx] e X.env = pure none := by rfl)
    (h1 : (assignEach [tx] X.env).map (·.2) = [assign tx X.env] := by rfl) : SV X C (.Assign [tx] e pos) (sTup is f) := by
  refine PS.imp (ps_asg h hg hs hw h1) fun D σ H ⟨F, O, ρ, r, q⟩ => ?_
  unfold sTup at q
  refine tE.bind r (fun v ρ1 F1 O1 H1 z e1 s1 r1 p1 => ?_) (fun c ρ1 e1 => ?_) fun e1 => ?_
  · rw [e1] at q
    simp only [RE.toS] at q
    have p1 : Rep X.K F1 z v := p1
    split at q
    · rename_i ρ2 hp
      exact tg_put [] r1 (.s p1) (fun i z => nomatch z) hp hio fun σ' O' s' r' _ => q F1 O' σ' H1 (s1.trans s') r'
    · exact q.elim
  · rw [e1] at q; exact exc_s q
  · rw [e1] at q; exact q.elim
/-- a, b = x, y with plain local names -/
@[simp] def sPar (i j : Nat) (fa : En → RE (List PV)) (ρ : En) : SR := match fa ρ with
  | .ok [v, w] ρ1 => .nx ((ρ1.set i (some (.s v))).set j (some (.s w)))
  | .exc c ρ1 => .exc c ρ1
  | _ => .bad
theorem sv_par {i j : Nat} {x y : Str} {a b : Expr} {fa : En → RE (List PV)} {px py pt : Pos} {kt k2 pt2} (hc : X.calm = true) (hN : X.N.Nodup) (hi : X.N[i]? = some x) (hj : X.N[j]? = some y) (hij : i ≠ j)
    (hx : X.env.scope.names.lookup x = some .local) (hy : X.env.scope.names.lookup y = some .local) (ii : i ∉ C.ioS) (ij : j ∉ C.ioS) (ha : AV X C .sh [a, b] fa)
    (hw : swappedStores [.Tuple [.Name x px, .Name y py] kt pt] (.Tuple [a, b] k2 pt2) X.env = pure (some [x, y]) := by rfl)
    (hs : swapsWithSole [.Tuple [.Name x px, .Name y py] kt pt] (.Tuple [a, b] k2 pt2) pos.line X.env = pure false := by rfl) :
    SV X C (.Assign [.Tuple [.Name x px, .Name y py] kt pt] (.Tuple [a, b] k2 pt2) pos) (sPar i j fa) := by
  refine PS.imp (ps_par hc hN hi hj hij hx hy ha hw hs) fun D σ H ⟨F, O, ρ, r, q⟩ => ?_
  unfold sPar at q
  refine tA.bind r (fun v ρ1 F1 O1 H1 z e1 s1 r1 p1 => ?_) (fun c ρ1 e1 => ?_) fun e1 => ?_
  · rw [e1] at q
    have p1 : RepA X.K F1 z v := p1
    split at q
    · rename_i v w _ e2
      cases e2
      cases p1 with
      | cons h1 h2 => cases h2 with
        | cons h2 h3 =>
          cases h3
          exact ⟨_, _, rfl, q F1 _ _ H1 (s1.trans (step_free.trans step_free)) ((r1.putS ii h1).putS ij h2)⟩
    · rename_i e2; cases e2
    · exact q.elim
  · rw [e1] at q; exact exc_s q
  · rw [e1] at q; exact q.elim
@[simp] def sPar3 (i j l : Nat) (fa : En → RE (List PV)) (ρ : En) : SR := match fa ρ with
  | .ok [v, w, u] ρ1 => .nx (((ρ1.set i (some (.s v))).set j (some (.s w))).set l (some (.s u)))
  | .exc c ρ1 => .exc c ρ1
  | _ => .bad
theorem sv_par3 {i j l : Nat} {x y z : Str} {a b c : Expr} {fa : En → RE (List PV)} {px py pz pt : Pos} {kt k2 pt2} (hc : X.calm = true) (hN : X.N.Nodup) (hi : X.N[i]? = some x) (hj : X.N[j]? = some y) (hl : X.N[l]? = some z) (hij : i ≠ j) (hil : i ≠ l) (hjl : j ≠ l)
    (hx : X.env.scope.names.lookup x = some .local) (hy : X.env.scope.names.lookup y = some .local) (hz : X.env.scope.names.lookup z = some .local) (ii : i ∉ C.ioS) (ij : j ∉ C.ioS) (il : l ∉ C.ioS) (ha : AV X C .sh [a, b, c] fa)
    (hw : swappedStores [.Tuple [.Name x px, .Name y py, .Name z pz] kt pt] (.Tuple [a, b, c] k2 pt2) X.env = pure (some [x, y, z]) := by rfl)
    (hs : swapsWithSole [.Tuple [.Name x px, .Name y py, .Name z pz] kt pt] (.Tuple [a, b, c] k2 pt2) pos.line X.env = pure false := by rfl) :
    SV X C (.Assign [.Tuple [.Name x px, .Name y py, .Name z pz] kt pt] (.Tuple [a, b, c] k2 pt2) pos) (sPar3 i j l fa) := by
  refine PS.imp (ps_par3 hc hN hi hj hl hij hil hjl hx hy hz ha hw hs) fun D σ H ⟨F, O, ρ, r, q⟩ => ?_
  unfold sPar3 at q
  refine tA.bind r (fun v ρ1 F1 O1 H1 z e1 s1 r1 p1 => ?_) (fun c ρ1 e1 => ?_) fun e1 => ?_
  · rw [e1] at q
    have p1 : RepA X.K F1 z v := p1
    split at q
    · rename_i v w u _ e2
      cases e2
      cases p1 with
      | cons h1 h2 => cases h2 with
        | cons h2 h3 => cases h3 with
          | cons h3 h4 =>
            cases h4
            exact ⟨_, _, _, rfl, q F1 _ _ H1 (s1.trans (step_free.trans (step_free.trans step_free))) (((r1.putS ii h1).putS ij h2).putS il h3)⟩
    · rename_i e2; cases e2
    · exact q.elim
  · rw [e1] at q; exact exc_s q
  · rw [e1] at q; exact q.elim

/-! ### x[i] = v of an owned list -/
@[simp] def setV : PV → PV → PV → Option PV
  | .list ds, .int k, v => (ixN ds.length k).map fun j => .list (ds.set j v)
  | _, _, _ => none
@[simp] def sSub (i : Nat) (fi fv : En → RE PV) (ρ : En) : SR := (fv ρ).toS fun v ρ1 => match ρ1.at i with
  | none => .bad
  | some _ => (fi ρ1).toS fun k ρ2 => match ρ2.at i with
    | some (.o c) => (match setV c k v with | some c' => .nx (ρ2.set i (some (.o c'))) | none => .bad)
    | _ => .bad
theorem sv_sub {i : Nat} {x : Str} {ix : Expr} {px ps : Pos} {fi : En → RE PV} (hx : PE X (.Name x px) (tVar i)) (hi : EV X C .sh ix fi) (h : EV X C .sh e f) (hs : swapsWithSole [.Subscript (.Name x px) ix ps] e pos.line X.env = pure false := by rfl) (hw : swappedStores [.Subscript (.Name x px) ix ps] e X.env = pure none := by rfl)
    (h1 : (assignEach [.Subscript (.Name x px) ix ps] X.env).map (·.2) = [assign (.Subscript (.Name x px) ix ps) X.env] := by rfl)
    (ha : ∀ v, assign (.Subscript (.Name x px) ix ps) X.env v = (do
      let ov ← holding [v] (eval (.Name x px) X.env)
      let iv ← holding [v, ov] (eval ix X.env)
      standAt ps
      holding [v, ov, iv] (setItem ov iv v)
      release [v, ov, iv] []) := by intro _; rfl) : SV X C (.Assign [.Subscript (.Name x px) ix ps] e pos) (sSub i fi f) := by
  refine PS.imp (ps_asg h (pg_sub hx hi set_list ha) hs hw h1) fun D σ H ⟨F, O, ρ, r, q⟩ => ?_
  unfold sSub at q
  refine tE.bind r (fun v ρ1 F1 O1 H1 z e1 s1 r1 p1 => ?_) (fun c ρ1 e1 => ?_) fun e1 => ?_
  · rw [e1] at q
    simp only [RE.toS] at q
    have p1 : Rep X.K F1 z v := p1
    split at q
    · exact q.elim
    · rename_i p0 h0
      obtain ⟨y0, hy0, _⟩ := r1.get h0
      refine ⟨y0, hy0, ?_⟩
      refine tE.bind r1 (fun w ρ2 F2 O2 H2 y e2 s2 r2 p2 => ?_) (fun c ρ2 e2 => ?_) fun e2 => ?_
      · rw [e2] at q
        simp only at q
        have p2 : Rep X.K F2 y w := p2
        split at q
        · rename_i cc hc
          obtain ⟨y1, hy1, sl⟩ := r2.get hc
          rw [hy0] at hy1; cases hy1
          split at q
          · rename_i c' hset
            cases sl with
            | o ho hat =>
              unfold setV at hset
              split at hset
              · rename_i ds k v'
                cases p2
                cases hj : ixN ds.length k with
                | none => rw [hj] at hset; cases hset
                | some j =>
                  rw [hj] at hset
                  cases hset
                  cases hat with
                  | lst hl hr =>
                    obtain ⟨s3, r3⟩ := r2.write (o := .lst _) hy0 ho (.lst hl hr) (.lst upd_same (hr.set (p1.mono s2.ext) j))
                    exact ⟨_, _, k, j, rfl, rfl, hl, by rw [hr.length]; exact hj, q F2 O2 σ _ ((s1.trans s2).trans s3) r3⟩
              · cases hset
          · exact q.elim
        · exact q.elim
      · rw [e2] at q; exact ExcP.from s1 (exc_s q)
      · rw [e2] at q; exact q.elim
  · rw [e1] at q; exact exc_s q
  · rw [e1] at q; exact q.elim

/-! ### methods that change an owned list -/
/-- the method's rule r answers as g says: the new content, the answer -/
def AnsM (K : PySem.W.Frag) (md : Kd) (g : List PV → List PV → Option (List PV × PV)) (r : V → List V → Hp → VK → Prop) : Prop :=
  ∀ (F H : Hp) (a : Addr) (vs : List V) (ds : List PV) (xs : List V) (us : List PV) (ds' : List PV) (u : PV) (Q : VK), Same F H → H a = some (.lst vs) → RepA K F vs ds → ArgK K md F H xs us → g ds us = some (ds', u) →
    (∀ vs' z, RepA K F vs' ds' → Rep K F z u → Q z (upd H a (.lst vs'))) → r (.ref a) xs H Q
@[simp] def eMut (i : Nat) (g : List PV → List PV → Option (List PV × PV)) (fa : En → RE (List PV)) (ρ : En) : RE PV := match ρ.at i with
  | some (.o (.list _)) => (fa ρ).bind fun us ρ1 => match ρ1.at i with
    | some (.o (.list ds)) => (match g ds us with | some (ds', u) => .ok u (ρ1.set i (some (.o (.list ds')))) | none => .bad)
    | _ => .bad
  | _ => .bad
theorem mut_read {md : Kd} {i : Nat} {g : List PV → List PV → Option (List PV × PV)} {r : V → List V → Hp → VK → Prop} {fa : En → RE (List PV)} (an : AnsM X.K md g r) {σ : L2.St} {H : Hp} {Q : VK} (h : tE X.K C .sh (eMut i g fa) σ H Q) :
    tBM X.K "list" r (tVar i) (tA X.K C md fa) σ H Q := by
  obtain ⟨F, O, ρ, r, q⟩ := h
  unfold eMut at q
  split at q
  case h_2 => exact q.elim
  rename_i d0 h0
  obtain ⟨y0, hy0, sl0⟩ := r.get h0
  cases sl0 with
  | o ho0 hat0 =>
    cases hat0 with
    | lst hl0 hr0 =>
      refine ⟨_, hy0, .inl ⟨rfl, _, .of hl0⟩, ?_⟩
      refine tA.bind r (fun us ρ1 F1 O1 H1 xs e1 s1 r1 p1 => ?_) (fun c ρ1 e1 => ?_) fun e1 => ?_
      · rw [e1] at q
        simp only [RE.bind] at q
        split at q
        case h_2 => exact q.elim
        rename_i ds hc
        obtain ⟨y1, hy1, sl⟩ := r1.get hc
        rw [hy0] at hy1; cases hy1
        split at q
        case h_2 => exact q.elim
        rename_i ds' u hg
        cases sl with
        | o ho hat =>
          cases hat with
          | lst hl hr =>
            refine an F1 H1 _ _ ds xs us ds' u Q r1.sub hl hr p1 hg fun vs' z hv hz => ?_
            obtain ⟨s3, r3⟩ := r1.write (o := .lst vs') hy0 ho (.lst hl hr) (.lst upd_same hv)
            exact q F1 O1 _ z (s1.trans s3) r3 hz
      · rw [e1] at q; exact q
      · rw [e1] at q; exact q.elim
theorem ev_mut {i : Nat} {x : Str} {px : Pos} {es : List Expr} {name : Str} {apos : Pos} {id : String} {md : Kd} {g : List PV → List PV → Option (List PV × PV)} {r : V → List V → Hp → VK → Prop} {fa : En → RE (List PV)}
    (slot : Slot "list" name id) (hty : typeOf (.builtin id) = pure (.type "method_descriptor")) (hm : MtR X id r) (an : AnsM X.K md g r) (hx : PE X (.Name x px) (tVar i)) (ha : AV X C md (e :: es) fa)
    (hbase : attributeBase (.Name x px) name X.env (eval (.Name x px) X.env) = eval (.Name x px) X.env := by rfl)
    (hfew : ((backTo pos (starEach (e :: es) X.env)).all (fun x => !x.1) && (backToKw pos (keywordEach [] X.env)).all (fun x => x.1.isSome)
      && decide ((e :: es).length + ([] : List Keyword).length + (if ([] : List Keyword).isEmpty then 0 else 1) < 30)) = true := by rfl)
    (hline : (apos.endLine == pos.line) = true := by rfl) (hs : starEach (e :: es) X.env = (false, eval e X.env) :: starEach es X.env := by rfl) (hplain : (backTo pos (starEach es X.env)).any (·.1) = false := by rfl) :
    EV X C .sh (.Call (.Attribute (.Name x px) name apos) (e :: es) [] pos) (eMut i g fa) :=
  PE.imp (pe_bm PySem.F.plainAttrs_list slot hty hm hx ha hbase hfew hline hs hplain) fun _ _ _ h => mut_read an h
@[simp] def gAppend (ds : List PV) : List PV → Option (List PV × PV)
  | [v] => if ds.length < 16777216 then some (ds ++ [v], .none) else none
  | _ => none
theorem an_append {K : PySem.W.Frag} : AnsM K .sh gAppend rAppend := by
  intro F H a vs ds xs us ds' u Q sub hl hr p hg c
  have p : RepA K F xs us := p
  unfold gAppend at hg
  split at hg
  · split at hg
    · rename_i hz
      cases hg
      cases p with
      | cons h1 h2 =>
        cases h2
        exact ⟨a, vs, _, rfl, rfl, hl, by rw [hr.length, sizeLine_eq]; exact hz, c _ _ (hr.append (.cons h1 .nil)) .non⟩
    · cases hg
  · cases hg
@[simp] def gExtend (ds : List PV) : List PV → Option (List PV × PV)
  | [.list es] => if ds.length + es.length ≤ 16777216 then some (ds ++ es, .none) else none
  | _ => none
theorem an_extend {K : PySem.W.Frag} : AnsM K .rd gExtend rExtend := by
  intro F H a vs ds xs us ds' u Q sub hl hr p hg c
  have p : RepRA K F H xs us := p
  unfold gExtend at hg
  split at hg
  · split at hg
    · rename_i hz
      cases hg
      obtain ⟨x, rfl, hx⟩ := p.one
      obtain ⟨b, ws, rfl, hb, qb⟩ := hx.list sub
      exact ⟨a, b, vs, ws, rfl, rfl, hl, hb, by rw [hr.length, qb.length, sizeLine_eq]; exact hz, c _ _ (hr.append qb) .non⟩
    · cases hg
  · cases hg
@[simp] def gPopAt (ds : List PV) : List PV → Option (List PV × PV)
  | [.int k] => if -1000000 ≤ k ∧ k ≤ 1000000 then (ixN ds.length k).bind fun j => (ds[j]?).map fun v => (ds.eraseIdx j, v) else none
  | _ => none
theorem RepA.eraseIdx {K : PySem.W.Frag} {F : Hp} : ∀ {v : List V} {d : List PV} (n : Nat), RepA K F v d → RepA K F (v.eraseIdx n) (d.eraseIdx n)
  | _, _, _, .nil => .nil
  | _, _, 0, .cons _ r => r
  | _, _, n + 1, .cons h r => .cons h (RepA.eraseIdx n r)
theorem an_popAt {K : PySem.W.Frag} : AnsM K .sh gPopAt rPopAt := by
  intro F H a vs ds xs us ds' u Q sub hl hr p hg c
  have p : RepA K F xs us := p
  unfold gPopAt at hg
  split at hg
  · rename_i k _
    split at hg
    case isFalse => cases hg
    rename_i hk
    cases hj : ixN ds.length k with
    | none => rw [hj] at hg; cases hg
    | some j =>
      rw [hj] at hg
      simp only [Option.bind_some] at hg
      cases hv : ds[j]? with
      | none => rw [hv] at hg; cases hg
      | some v =>
        rw [hv] at hg
        cases hg
        cases p with
        | cons h1 h2 =>
          cases h2
          cases h1
          obtain ⟨y, hy, hrep⟩ := hr.get hv
          obtain ⟨i1, i2, i3, i4⟩ := ixN_seq hj
          exact ⟨a, vs, k, j, y, rfl, rfl, hl, by omega, by omega, by rw [hr.length]; exact i1, hy, c _ _ (hr.eraseIdx j) hrep⟩
  · cases hg
end
end Fx

/-! part Fw7 -/
namespace Fx
open PySem PySem.Spec PyProof.Rows L2

/-! ### what a def promises -/
inductive PM where
  | s | o
inductive ArgsC (K : PySem.W.Frag) (F H : Hp) : List PM → List V → List PV → List Addr → Prop
  | nil : ArgsC K F H [] [] [] []
  | s {ms : List PM} {x : V} {xs : List V} {v : PV} {vs : List PV} {I : List Addr} : Rep K F x v → ArgsC K F H ms xs vs I → ArgsC K F H (.s :: ms) (x :: xs) (v :: vs) I
  | o {ms : List PM} {a : Addr} {xs : List V} {v : PV} {vs : List PV} {I : List Addr} : OwnAt K F H a v → ArgsC K F H ms xs vs I → ArgsC K F H (.o :: ms) (.ref a :: xs) (v :: vs) (a :: I)
inductive OutsR (K : PySem.W.Frag) (F H : Hp) : List Addr → List PV → Prop
  | nil : OutsR K F H [] []
  | cons {a : Addr} {v : PV} {I : List Addr} {vs : List PV} : OwnAt K F H a v → OutsR K F H I vs → OutsR K F H (a :: I) (v :: vs)
structure StepC (T : List (Addr × Str)) (F H : Hp) (I : List Addr) (F' H' : Hp) : Prop where
  ext : Same F F'
  new : ∀ a, F' a ≠ none → F a ≠ none ∨ Fre H a
  frm : ∀ a o, H a = some o → a ∉ I → Kept o (H' a)
  tabs : LamX.Tabs T H'
  nt : NT F'
  sub : Same F' H'
  io : ∀ a ∈ I, F' a = none
def RetK (K : PySem.W.Frag) (k : Kd) (H F' H' : Hp) (x : V) (p : PV) : Prop := match k with
  | .fr => ∃ a, x = .ref a ∧ Fre H a ∧ F' a = none ∧ OwnAt K F' H' a p
  | .rd => RepR K F' H' x p
  | .sh => Rep K F' x p
section
variable (K : PySem.W.Frag) (T : List (Addr × Str)) (xc : Nat → Value) (ms : List PM) (kr : Kd)
def PostC (F H : Hp) (I : List Addr) (Q : VK) (E : XK) : FR → Prop
  | .ret v outs => ∀ F' H' x, StepC T F H I F' H' → OutsR K F' H' I outs → RetK K kr H F' H' x v → Q x H'
  | .exc c outs => ∀ F' H', StepC T F H I F' H' → OutsR K F' H' I outs → E (xc c) none H'
  | .bad => False
def spF (g : List PV → FR) : Sp := fun vs H Q E => ∃ F pvs I, Same F H ∧ LamX.Tabs T H ∧ NT F ∧ ArgsC K F H ms vs pvs I ∧ I.Nodup ∧ (∀ a ∈ I, F a = none) ∧ PostC K T xc kr F H I Q E (g pvs)
end
@[simp] def parE : List PM → List PV → En
  | .s :: ms, v :: vs => some (.s v) :: parE ms vs
  | .o :: ms, v :: vs => some (.o v) :: parE ms vs
  | _, _ => []
def startE (n : Nat) (ms : List PM) (vs : List PV) : En := parE ms vs ++ List.replicate (n - vs.length) none
@[simp] def ioSl : Nat → List PM → List Nat
  | _, [] => []
  | i, .s :: ms => ioSl (i + 1) ms
  | i, .o :: ms => i :: ioSl (i + 1) ms
def ownOf : Nat → List PM → List Addr → Own
  | i, .s :: ms, I => ownOf (i + 1) ms I
  | i, .o :: ms, a :: I => fun j => if j = i then some a else ownOf (i + 1) ms I j
  | _, _, _ => fun _ => none
@[simp] def outsE : List Nat → En → Option (List PV)
  | [], _ => some []
  | i :: is, ρ => match ρ.at i with
    | some (.o v) => (outsE is ρ).map (v :: ·)
    | _ => none
@[simp] def finR (is : List Nat) (v : PV) (ρ : En) : FR := match outsE is ρ with | some o => .ret v o | none => .bad
@[simp] def finX (is : List Nat) (c : Nat) (ρ : En) : FR := match outsE is ρ with | some o => .exc c o | none => .bad
def runF (n : Nat) (ms : List PM) (g : En → SR) (pvs : List PV) : FR := match g (startE n ms pvs) with
  | .nx ρ => finR (ioSl 0 ms) .none ρ
  | .ret v ρ => finR (ioSl 0 ms) v ρ
  | .exc c ρ => finX (ioSl 0 ms) c ρ
  | _ => .bad
/-- a def that tells an owned object has a return on every way -/
def runF' (kr : Kd) (n : Nat) (ms : List PM) (g : En → SR) (pvs : List PV) : FR := match g (startE n ms pvs) with
  | .nx ρ => if kr = .fr then .bad else finR (ioSl 0 ms) .none ρ
  | .ret v ρ => finR (ioSl 0 ms) v ρ
  | .exc c ρ => finX (ioSl 0 ms) c ρ
  | _ => .bad
section
variable {K : PySem.W.Frag} {F H F' H' : Hp} {ms : List PM} {xs : List V} {vs : List PV} {I : List Addr}
theorem ArgsC.len : ∀ {ms : List PM} {xs : List V} {vs : List PV} {I : List Addr}, ArgsC K F H ms xs vs I → xs.length = ms.length ∧ vs.length = ms.length ∧ (parE ms vs).length = ms.length ∧ I.length = (ioSl 0 ms).length
  | _, _, _, _, .nil => ⟨rfl, rfl, rfl, rfl⟩
  | _, _, _, _, .s (ms := ms) _ r => by
    obtain ⟨h1, h2, h3, h4⟩ := r.len
    have e : ∀ (ms : List PM) (i j : Nat), (ioSl i ms).length = (ioSl j ms).length := fun ms => by
      induction ms with
      | nil => intros; rfl
      | cons m ms ih => intro i j; cases m <;> simp [ih (i + 1) (j + 1)]
    refine ⟨by simp [h1], by simp [h2], by simp [h3], ?_⟩
    rw [h4]; exact e ms 0 1
  | _, _, _, _, .o (ms := ms) (I := I) _ r => by
    obtain ⟨h1, h2, h3, h4⟩ := r.len
    have e : ∀ (ms : List PM) (i j : Nat), (ioSl i ms).length = (ioSl j ms).length := fun ms => by
      induction ms with
      | nil => intros; rfl
      | cons m ms ih => intro i j; cases m <;> simp [ih (i + 1) (j + 1)]
    refine ⟨by simp [h1], by simp [h2], by simp [h3], ?_⟩
    show I.length + 1 = (ioSl 1 ms).length + 1
    rw [h4, e ms 0 1]
theorem ownOf_mem : ∀ {ms : List PM} {I : List Addr} {off i : Nat} {a : Addr}, ownOf off ms I i = some a → a ∈ I ∧ off ≤ i
  | [], _, _, _, _, h => by simp [ownOf] at h
  | .s :: ms, I, off, i, a, h => by
    obtain ⟨h1, h2⟩ := ownOf_mem (ms := ms) (off := off + 1) h
    exact ⟨h1, by omega⟩
  | .o :: ms, [], _, _, _, h => by simp [ownOf] at h
  | .o :: ms, b :: I, off, i, a, h => by
    unfold ownOf at h
    split at h
    · rename_i e
      cases h; exact ⟨List.mem_cons_self, by omega⟩
    · obtain ⟨h1, h2⟩ := ownOf_mem (ms := ms) (off := off + 1) h
      exact ⟨List.mem_cons_of_mem _ h1, by omega⟩
theorem ownOf_inj : ∀ {ms : List PM} {I : List Addr} {off i j : Nat} {a : Addr}, I.Nodup → ownOf off ms I i = some a → ownOf off ms I j = some a → i = j
  | [], _, _, _, _, _, _, h, _ => by simp [ownOf] at h
  | .s :: ms, I, off, i, j, a, nd, h, h' => ownOf_inj (ms := ms) (off := off + 1) nd h h'
  | .o :: ms, [], _, _, _, _, _, h, _ => by simp [ownOf] at h
  | .o :: ms, b :: I, off, i, j, a, nd, h, h' => by
    obtain ⟨n1, n2⟩ := List.nodup_cons.mp nd
    unfold ownOf at h h'
    split at h
    · rename_i e
      cases h
      split at h'
      · rename_i e'; rw [e, e']
      · exact absurd (ownOf_mem h').1 n1
    · split at h'
      · cases h'; exact absurd (ownOf_mem h).1 n1
      · exact ownOf_inj (ms := ms) (off := off + 1) n2 h h'
theorem ownOf_io : ∀ {ms : List PM} {I : List Addr} {off : Nat}, ∀ p ∈ (ioSl off ms).zip I, ownOf off ms I p.1 = some p.2 ∧ off ≤ p.1
  | [], _, _, p, h => by simp at h
  | .s :: ms, I, off, p, h => by
    obtain ⟨a, b⟩ := ownOf_io (ms := ms) (off := off + 1) p h
    exact ⟨a, by omega⟩
  | .o :: ms, [], _, p, h => by simp at h
  | .o :: ms, b :: I, off, p, h => by
    rcases List.mem_cons.mp h with e | h
    · subst e; exact ⟨by unfold ownOf; rw [if_pos rfl], Nat.le_refl _⟩
    · obtain ⟨h1, h2⟩ := ownOf_io (ms := ms) (off := off + 1) p h
      exact ⟨by unfold ownOf; rw [if_neg (by omega)]; exact h1, by omega⟩
theorem ArgsC.slot {C : Cf} : ∀ {ms : List PM} {xs : List V} {vs : List PV} {I : List Addr}, ArgsC K F H ms xs vs I → ∀ (off i : Nat) (p : Sv), (parE ms vs)[i]? = some (some p) → ∃ v, xs[i]? = some v ∧ SlotR K C F (ownOf off ms I (off + i)) H v p
  | _, _, _, _, .nil, _, _, _, h => by simp at h
  | _, _, _, _, .s hr r, off, 0, p, h => by simp at h; subst h; exact ⟨_, rfl, .s hr⟩
  | _, _, _, _, .s hr r, off, i + 1, p, h => by
    obtain ⟨v, h1, h2⟩ := r.slot (C := C) (off + 1) i p (by simpa using h)
    refine ⟨v, by simpa using h1, ?_⟩
    have e : off + (i + 1) = off + 1 + i := by omega
    rw [e]; exact h2
  | _, _, _, _, .o (a := a) ha r, off, 0, p, h => by simp at h; subst h; exact ⟨_, rfl, .o (by unfold ownOf; rw [if_pos (Nat.add_zero off)]) ha⟩
  | _, _, _, _, .o ha r, off, i + 1, p, h => by
    obtain ⟨v, h1, h2⟩ := r.slot (C := C) (off + 1) i p (by simpa using h)
    refine ⟨v, by simpa using h1, ?_⟩
    have e : off + (i + 1) = off + 1 + i := by omega
    unfold ownOf
    rw [if_neg (by omega), e]; exact h2
theorem ArgsC.there : ∀ {ms : List PM} {xs : List V} {vs : List PV} {I : List Addr}, ArgsC K F H ms xs vs I → ∀ a ∈ I, ∃ o, H a = some o ∧ ∀ ps, o ≠ .tbl ps
  | _, _, _, _, .nil, _, h => by simp at h
  | _, _, _, _, .s _ r, a, h => r.there a h
  | _, _, _, _, .o ha r, b, h => by
    rcases List.mem_cons.mp h with e | h
    · subst e; exact ha.plain
    · exact r.there b h
theorem startE_get {n i : Nat} {p : Sv} (h : (startE n ms vs)[i]? = some (some p)) : (parE ms vs)[i]? = some (some p) := by
  unfold startE at h
  by_cases q : i < (parE ms vs).length
  · rwa [List.getElem?_append_left q] at h
  · rw [List.getElem?_append_right (by omega), List.getElem?_replicate] at h
    split at h <;> cases h
end
def cfOf (T : List (Addr × Str)) (ms : List PM) (I : List Addr) (xc : Nat → Value) (clo : Nat → Addr → HO) (kr : Kd) (E : XK) : Cf := ⟨ioSl 0 ms, I, xc, clo, fun cls d _ H => E cls d H, kr, T⟩
section
variable {P : Program} {w : World} {K : PySem.W.Frag} {mg : Str → Option Value} {base : Heap}
/-- THE RULE of a def: its body's meaning gives its promise -/
theorem okF {T : List (Addr × Str)} {x qual : Str} {st : Stmt} {f : Addr} {oc dV kV doc pm cdv ct : Value} {od an : Option Addr} {osl : Array (Option Value)} {N ps : List Str} {k : Nat} {ms : List PM} {kr : Kd} {xc : Nat → Value} {clo : Cx → Nat → Addr → HO} {g : En → SR} (lk : K.lookup f = some ⟨oc, od, .func (PySem.W.fnOf x qual (defArgs st) (defBody st) (defScope st) dV kV doc pm an cdv ct), osl⟩) (hcd : PySem.W.codeIn K cdv qual = true) (S : FnScope N ps (defScope st)) (hl : ms.length = ps.length) (hn : ps.length ≤ N.length)
    (body : ∀ (A : Around) (outer : List Env) (s : Shared) (H : Hp) (E : XK) (I : List Addr), Room k (A.deeper (envOfC qual (defScope st) s.heap.objs.size f cdv)) →
      SVs (cxOf (L2.CX P w) P w K mg base N qual (defScope st) f cdv A outer s H E) (cfOf T ms I xc (clo (cxOf (L2.CX P w) P w K mg base N qual (defScope st) f cdv A outer s H E)) kr E) (defBody st) g) :
    FnOk P w K mg base (L2.CX P w) (k + 1) f (PySem.W.fnOf x qual (defArgs st) (defBody st) (defScope st) dV kV doc pm an cdv ct) ps (spF K T xc ms kr (runF' kr N.length ms g)) := by
  refine fn_of lk hcd S (fun vs H Q E ⟨F, pvs, I, _, _, _, ha, _⟩ => by rw [ha.len.1, hl]) fun A outer s H vs Q E hr ⟨Fz, pvs, I, sub, tb, nt, ha, nd, nF, q⟩ => ?_
  refine ⟨_, body A outer s H E I hr, ?_⟩
  obtain ⟨l1, l2, l3, l4⟩ := ha.len
  have there := ha.there
  -- the start
  have r0 : Rel K (cfOf T ms I xc (clo (cxOf (L2.CX P w) P w K mg base N qual (defScope st) f cdv A outer s H E)) kr E) Fz (ownOf 0 ms I) (L2.start N vs) H (startE N.length ms pvs) := by
    refine ⟨sub, ?_, fun i p h => ?_, fun i j a h h' => ownOf_inj nd h h', fun i a h => ⟨nF a (ownOf_mem h).1, there a (ownOf_mem h).1⟩, fun p hp => (ownOf_io p hp).1, tb, nt⟩
    · unfold startE L2.start
      simp only [List.length_append, List.length_map, List.length_replicate, l3, l1, l2]
    · obtain ⟨v, h1, h2⟩ := ha.slot 0 i p (startE_get h)
      rw [Nat.zero_add] at h2
      refine ⟨v, ?_, h2⟩
      unfold L2.start
      have hi : i < vs.length := (List.getElem?_eq_some_iff.mp h1).1
      rw [List.getElem?_append_left (by simpa using hi), List.getElem?_map, h1] <;> rfl
  have own_mem : ∀ a ∈ I, ∃ i, i ∈ ioSl 0 ms ∧ (i, a) ∈ (ioSl 0 ms).zip I := fun a hm => by
    obtain ⟨j, hj, e⟩ := List.mem_iff_getElem.mp hm
    have hj' : j < (ioSl 0 ms).length := by rw [← l4]; exact hj
    refine ⟨(ioSl 0 ms)[j], List.getElem_mem hj', ?_⟩
    rw [List.mem_iff_getElem]
    exact ⟨j, by rw [List.length_zip]; omega, by rw [List.getElem_zip, e]⟩
  -- a step's end
  have fin : ∀ {F' H' : Hp} {O' : Own} {σ' : L2.St} {ρ' : En}, Step Fz H (ownOf 0 ms I) F' H' O' → Rel K (cfOf T ms I xc (clo (cxOf (L2.CX P w) P w K mg base N qual (defScope st) f cdv A outer s H E)) kr E) F' O' σ' H' ρ' → StepC T Fz H I F' H' ∧
      (∀ outs, outsE (ioSl 0 ms) ρ' = some outs → OutsR K F' H' I outs) ∧ (∀ a ∈ I, ∃ i, O' i = some a) := fun {F' H' O' σ' ρ'} s' r' => by
    have hO : ∀ a ∈ I, ∃ i, O' i = some a := fun a hm => by
      obtain ⟨i, _, hz⟩ := own_mem a hm
      exact ⟨i, r'.io (i, a) hz⟩
    refine ⟨⟨s'.ext, fun a h => ?_, fun a o h n => s'.frm a o h fun i z => n (ownOf_mem z).1, r'.tabs, r'.nt, r'.sub, fun a hm => ?_⟩, fun outs ho => ?_, hO⟩
    · rcases s'.new a h with z | z | ⟨i, z⟩
      · exact .inl z
      · exact .inr z
      · obtain ⟨j, hj⟩ := hO a (ownOf_mem z).1
        exact absurd (r'.out j a hj).1 h
    · obtain ⟨j, hj⟩ := hO a hm
      exact (r'.out j a hj).1
    · have : ∀ (is : List Nat) (J : List Addr) (outs : List PV), is.length = J.length → (∀ p ∈ is.zip J, O' p.1 = some p.2) → outsE is ρ' = some outs → OutsR K F' H' J outs := by
        intro is
        induction is with
        | nil =>
          intro J outs e _ h
          cases J with
          | nil => cases h; exact .nil
          | cons => cases e
        | cons i is ih =>
          intro J outs e hz h
          cases J with
          | nil => cases e
          | cons a J =>
            unfold outsE at h
            split at h
            · rename_i v hv
              cases h2 : outsE is ρ' with
              | none => rw [h2] at h; cases h
              | some os =>
                rw [h2] at h
                cases h
                obtain ⟨y, hy, sl⟩ := r'.get hv
                cases sl with
                | o ho hat =>
                  rw [hz (i, a) List.mem_cons_self] at ho
                  cases ho
                  exact .cons hat (ih J os (by simpa using e) (fun p hp => hz p (List.mem_cons_of_mem _ hp)) h2)
            · cases h
      exact this (ioSl 0 ms) I outs l4.symm r'.io ho
  have ret : ∀ {F' H' : Hp} {O' : Own} {σ' : L2.St} {ρ' : En} {x : V} {v : PV}, Step Fz H (ownOf 0 ms I) F' H' O' → Rel K (cfOf T ms I xc (clo (cxOf (L2.CX P w) P w K mg base N qual (defScope st) f cdv A outer s H E)) kr E) F' O' σ' H' ρ' →
      ValK K kr H (ownOf 0 ms I) F' O' H' x v → RetK K kr H F' H' x v := fun {F' H' O' σ' ρ' x v} s' r' p' => by
    cases kr with
    | sh => exact p'
    | rd => exact p'
    | fr =>
      obtain ⟨a, e, f⟩ := p'
      refine ⟨a, e, ?_, f.nF, f.at_⟩
      rcases f.new with z | ⟨i, z⟩
      · exact z
      · obtain ⟨j, hj⟩ := (fin s' r').2.2 a (ownOf_mem z).1
        exact absurd hj (f.nO j)
  refine ⟨Fz, ownOf 0 ms I, _, r0, ?_⟩
  unfold runF' at q
  cases eg : g (startE N.length ms pvs) with
  | nx ρ' =>
    rw [eg] at q
    intro F' O' σ' H' s' r'
    simp only at q
    split at q
    · exact q.elim
    · rename_i hk
      unfold finR at q
      split at q
      · rename_i outs ho
        refine q F' H' .non (fin s' r').1 ((fin s' r').2.1 outs ho) ?_
        cases kr with
        | sh => exact .non
        | rd => exact .s .non
        | fr => exact absurd rfl hk
      · exact q.elim
  | ret v ρ' =>
    rw [eg] at q
    intro F' O' σ' H' x s' r' p'
    simp only [finR] at q
    split at q
    · rename_i outs ho
      exact q F' H' x (fin s' r').1 ((fin s' r').2.1 outs ho) (ret s' r' p')
    · exact q.elim
  | exc c ρ' =>
    rw [eg] at q
    intro F' O' σ' H' s' r'
    simp only [finX] at q
    split at q
    · rename_i outs ho
      exact q F' H' (fin s' r').1 ((fin s' r').2.1 outs ho)
    · exact q.elim
  | bk ρ' => rw [eg] at q; exact q.elim
  | ct ρ' => rw [eg] at q; exact q.elim
  | bad => rw [eg] at q; exact q.elim
end

/-! ### arguments of a def -/
inductive ArgsM (K : PySem.W.Frag) (F : Hp) (O : Own) (H : Hp) : List PM → List Nat → List V → List PV → Prop
  | nil : ArgsM K F O H [] [] [] []
  | s {ms : List PM} {is : List Nat} {x : V} {xs : List V} {v : PV} {vs : List PV} : Rep K F x v → ArgsM K F O H ms is xs vs → ArgsM K F O H (.s :: ms) is (x :: xs) (v :: vs)
  | o {ms : List PM} {is : List Nat} {i : Nat} {a : Addr} {xs : List V} {v : PV} {vs : List PV} : O i = some a → OwnAt K F H a v → ArgsM K F O H ms is xs vs → ArgsM K F O H (.o :: ms) (i :: is) (.ref a :: xs) (v :: vs)
def PostM (K : PySem.W.Frag) (C : Cf) (ms : List PM) (is : List Nat) (F H : Hp) (O : Own) (σ : L2.St) (Q : List V → Hp → Prop) : RE (List PV) → Prop
  | .ok vs ρ' => ∀ F' O' H' xs, Step F H O F' H' O' → Rel K C F' O' σ H' ρ' → ArgsM K F' O' H' ms is xs vs → Q xs H'
  | .exc c ρ' => ExcP K C F H O σ c ρ'
  | .bad => False
def tM (K : PySem.W.Frag) (C : Cf) (ms : List PM) (is : List Nat) (f : En → RE (List PV)) : TA := fun σ H Q => ∃ F O ρ, Rel K C F O σ H ρ ∧ PostM K C ms is F H O σ Q (f ρ)
def MV (X : Cx) (C : Cf) (ms : List PM) (is : List Nat) (es : List Expr) (f : En → RE (List PV)) : Prop := PA X es (tM X.K C ms is f)
theorem tM.bind {K : PySem.W.Frag} {C : Cf} {ms : List PM} {is : List Nat} {F H : Hp} {O : Own} {σ : L2.St} {ρ : En} {f : En → RE (List PV)} {Q : List V → Hp → Prop} (r : Rel K C F O σ H ρ)
    (ok : ∀ v ρ1 F1 O1 H1 x, f ρ = .ok v ρ1 → Step F H O F1 H1 O1 → Rel K C F1 O1 σ H1 ρ1 → ArgsM K F1 O1 H1 ms is x v → Q x H1) (ex : ∀ c ρ1, f ρ = .exc c ρ1 → ExcP K C F H O σ c ρ1) (nb : f ρ ≠ .bad) : tM K C ms is f σ H Q := by
  refine ⟨F, O, ρ, r, ?_⟩
  cases e : f ρ with
  | ok v ρ1 => exact fun F1 O1 H1 x s1 r1 p1 => ok v ρ1 F1 O1 H1 x e s1 r1 p1
  | exc c ρ1 => exact ex c ρ1 e
  | bad => exact absurd e nb
@[simp] def aIo (i : Nat) (fr : En → RE (List PV)) (ρ : En) : RE (List PV) := match ρ.at i with
  | some (.o _) => (fr ρ).bind fun vs ρ2 => match ρ2.at i with
    | some (.o v) => .ok (v :: vs) ρ2
    | _ => .bad
  | _ => .bad
@[simp] def setOuts : List Nat → List PV → En → Option En
  | [], [], ρ => some ρ
  | i :: is, v :: vs, ρ => match ρ.at i with
    | some (.o _) => setOuts is vs (ρ.set i (some (.o v)))
    | _ => none
  | _, _, _ => none
@[simp] def eFun (g : List PV → FR) (is : List Nat) (fa : En → RE (List PV)) (ρ : En) : RE PV := (fa ρ).bind fun vs ρ1 => match g vs with
  | .ret v outs => (match setOuts is outs ρ1 with | some ρ2 => .ok v ρ2 | none => .bad)
  | .exc c outs => (match setOuts is outs ρ1 with | some ρ2 => .exc c ρ2 | none => .bad)
  | .bad => .bad
section
variable {X : Cx} {C : Cf} {e : Expr} {es : List Expr} {fa : En → RE PV} {fr : En → RE (List PV)} {ms : List PM} {is : List Nat} {pos : Pos}
theorem mv_nil : MV X C [] [] [] aNil := PA.imp pa_nil fun σ H Q ⟨F, O, ρ, r, q⟩ => q F O H [] .refl r .nil
theorem mv_s (ha : EV X C .sh e fa) (hr : MV X C ms is es fr) (hs : starEach (e :: es) X.env = (false, eval e X.env) :: starEach es X.env := by rfl) : MV X C (.s :: ms) is (e :: es) (aCons fa fr) := by
  refine PA.imp (pa_cons ha hr hs) fun σ H Q ⟨F, O, ρ, r, q⟩ => ?_
  unfold aCons at q
  refine tE.bind r (fun v ρ1 F1 O1 H1 x e1 s1 r1 p1 => ?_) (fun c ρ1 e1 => ?_) fun e1 => ?_
  · rw [e1] at q
    refine tM.bind r1 (fun w ρ2 F2 O2 H2 y e2 s2 r2 p2 => ?_) (fun c ρ2 e2 => ?_) fun e2 => ?_
    · simp only [RE.bind, e2] at q
      exact q F2 O2 H2 _ (s1.trans s2) r2 (.s (Rep.mono s2.ext p1) p2)
    · simp only [RE.bind, e2] at q
      exact ExcP.from s1 q
    · simp only [RE.bind, e2] at q
      exact q.elim
  · rw [e1] at q; exact q
  · rw [e1] at q; exact q.elim
theorem mv_o {i : Nat} {x : Str} {px : Pos} (hx : PE X (.Name x px) (tVar i)) (hr : MV X C ms is es fr) (hs : starEach (.Name x px :: es) X.env = (false, eval (.Name x px) X.env) :: starEach es X.env := by rfl) : MV X C (.o :: ms) (i :: is) (.Name x px :: es) (aIo i fr) := by
  refine PA.imp (pa_cons hx hr hs) fun σ H Q ⟨F, O, ρ, r, q⟩ => ?_
  unfold aIo at q
  split at q
  · rename_i d0 h0
    obtain ⟨y0, hy0, _⟩ := r.get h0
    refine ⟨y0, hy0, tM.bind r (fun w ρ2 F2 O2 H2 y e2 s2 r2 p2 => ?_) (fun c ρ2 e2 => ?_) fun e2 => ?_⟩
    · simp only [RE.bind, e2] at q
      split at q
      · rename_i v hv
        obtain ⟨y1, hy1, sl⟩ := r2.get hv
        rw [hy0] at hy1; cases hy1
        cases sl with
        | o ho hat => exact q F2 O2 H2 _ s2 r2 (.o ho hat p2)
      · exact q.elim
    · simp only [RE.bind, e2] at q; exact q
    · simp only [RE.bind, e2] at q; exact q.elim
  · exact q.elim
theorem ArgsM.toC {K : PySem.W.Frag} {F : Hp} {O : Own} {H : Hp} : ∀ {ms : List PM} {is : List Nat} {xs : List V} {vs : List PV}, ArgsM K F O H ms is xs vs → ∃ I, ArgsC K F H ms xs vs I ∧ Paired (fun i a => O i = some a) is I
  | _, _, _, _, .nil => ⟨[], .nil, .nil⟩
  | _, _, _, _, .s h r => by
    obtain ⟨I, h1, h2⟩ := r.toC
    exact ⟨I, .s h h1, h2⟩
  | _, _, _, _, .o ho h r => by
    obtain ⟨I, h1, h2⟩ := r.toC
    exact ⟨_ :: I, .o h h1, .cons ho h2⟩
theorem paired_mem {α β : Type} {R : α → β → Prop} : ∀ {xs : List α} {ys : List β}, Paired R xs ys → ∀ y ∈ ys, ∃ x ∈ xs, R x y
  | _, _, .nil, y, h => nomatch h
  | _, _, .cons a b, y, h => by
    rcases List.mem_cons.mp h with e | h
    · subst e; exact ⟨_, List.mem_cons_self, a⟩
    · obtain ⟨x, h1, h2⟩ := paired_mem b y h
      exact ⟨x, List.mem_cons_of_mem _ h1, h2⟩
theorem paired_memL {α β : Type} {R : α → β → Prop} : ∀ {xs : List α} {ys : List β}, Paired R xs ys → ∀ x ∈ xs, ∃ y ∈ ys, R x y
  | _, _, .nil, y, h => nomatch h
  | _, _, .cons a b, y, h => by
    rcases List.mem_cons.mp h with e | h
    · subst e; exact ⟨_, List.mem_cons_self, a⟩
    · obtain ⟨x, h1, h2⟩ := paired_memL b y h
      exact ⟨x, List.mem_cons_of_mem _ h1, h2⟩
theorem paired_nodup {O : Own} (inj : ∀ i j a, O i = some a → O j = some a → i = j) : ∀ {is : List Nat} {I : List Addr}, Paired (fun i a => O i = some a) is I → is.Nodup → I.Nodup
  | _, _, .nil, _ => List.nodup_nil
  | _, _, .cons h r, nd => by
    obtain ⟨n1, n2⟩ := List.nodup_cons.mp nd
    refine List.nodup_cons.mpr ⟨fun hm => ?_, paired_nodup inj r n2⟩
    obtain ⟨x, hx, e⟩ := paired_mem r _ hm
    exact n1 (by rw [inj _ _ _ h e]; exact hx)
theorem setOuts_get : ∀ {is : List Nat} {outs : List PV} {ρ ρ' : En}, setOuts is outs ρ = some ρ' → ρ'.length = ρ.length ∧ is.length = outs.length ∧ (∀ (j : Nat) (p : Sv), ρ'[j]? = some (some p) → (j ∉ is ∧ ρ[j]? = some (some p)) ∨ (j ∈ is ∧ ∃ (k : Nat) (v : PV), is[k]? = some j ∧ outs[k]? = some v ∧ p = .o v)) ∧ ∀ j ∈ is, ∃ v, ρ[j]? = some (some (.o v))
  | [], [], ρ, ρ', h => by cases h; exact ⟨rfl, rfl, fun j p hp => .inl ⟨by simp, hp⟩, fun j h => nomatch h⟩
  | [], _ :: _, _, _, h => by cases h
  | _ :: _, [], _, _, h => by cases h
  | i :: is, v :: vs, ρ, ρ', h => by
    unfold setOuts at h
    split at h
    · rename_i w hw
      obtain ⟨h1, h2, h3, h4⟩ := setOuts_get (is := is) (outs := vs) h
      refine ⟨by rw [h1, List.length_set], by simp [h2], fun j p hp => ?_, fun j hj => ?_⟩
      · rcases h3 j p hp with ⟨n, hp⟩ | ⟨m, k, u, a, b, c⟩
        · rcases getElem_set hp with ⟨e, e2, _⟩ | ⟨ne, hp⟩
          · subst e; cases e2
            exact .inr ⟨List.mem_cons_self, 0, v, rfl, rfl, rfl⟩
          · exact .inl ⟨fun z => (List.mem_cons.mp z).elim ne n, hp⟩
        · exact .inr ⟨List.mem_cons_of_mem _ m, k + 1, u, by simpa using a, by simpa using b, c⟩
      · rcases List.mem_cons.mp hj with e | hj
        · subst e; exact ⟨w, En.at_some hw⟩
        · obtain ⟨u, hu⟩ := h4 j hj
          rcases getElem_set hu with ⟨e, _, _⟩ | ⟨_, hu⟩
          · subst e; exact ⟨w, En.at_some hw⟩
          · exact ⟨u, hu⟩
    · cases h
theorem OutsR.get {K : PySem.W.Frag} {F H : Hp} : ∀ {I : List Addr} {outs : List PV} {k : Nat} {v : PV}, OutsR K F H I outs → outs[k]? = some v → ∃ a, I[k]? = some a ∧ OwnAt K F H a v
  | _, _, _, _, .nil, h => by simp at h
  | _, _, 0, _, .cons a r, h => by simp at h; subst h; exact ⟨_, rfl, a⟩
  | _, _, k + 1, _, .cons a r, h => by
    obtain ⟨b, h1, h2⟩ := OutsR.get (k := k) r (by simpa using h)
    exact ⟨b, by simpa using h1, h2⟩
theorem paired_get {α β : Type} {R : α → β → Prop} : ∀ {xs : List α} {ys : List β} {k : Nat} {x : α} {y : β}, Paired R xs ys → xs[k]? = some x → ys[k]? = some y → R x y
  | _, _, _, _, _, .nil, h, _ => by simp at h
  | _, _, 0, _, _, .cons a _, h, h' => by simp at h h'; subst h h'; exact a
  | _, _, k + 1, _, _, .cons _ r, h, h' => paired_get (k := k) r (by simpa using h) (by simpa using h')
/-- behind a call -/
theorem Rel.called {K : PySem.W.Frag} {F H F' H' : Hp} {O : Own} {σ : L2.St} {ρ ρ' : En} {I : List Addr} {outs : List PV} (r : Rel K C F O σ H ρ) (pi : Paired (fun i a => O i = some a) is I) (s : StepC C.T F H I F' H') (ho : OutsR K F' H' I outs) (hs : setOuts is outs ρ = some ρ') :
    Step F H O F' H' O ∧ Rel K C F' O σ H' ρ' := by
  obtain ⟨h1, h2, h3, h4⟩ := setOuts_get hs
  have fx : ∀ i a, O i = some a → F' a = none := fun i a h => by
    by_cases hm : a ∈ I
    · exact s.io a hm
    · cases q : F' a with
      | none => rfl
      | some u =>
        obtain ⟨z1, o, z2, z3⟩ := r.out i a h
        rcases s.new a (by rw [q]; exact fun z => nomatch z) with z | z
        · exact absurd z1 z
        · exact (z.no z2 z3).elim
  have kept : ∀ i a, O i = some a → i ∉ is → ∀ o, H a = some o → (∀ ps, o ≠ .tbl ps) → H' a = H a := fun i a h n o z2 nt => by
    rw [z2]
    refine (s.frm a o z2 fun hm => ?_).same nt
    obtain ⟨j, hj, e⟩ := paired_mem pi a hm
    exact n (by rw [r.inj i j a h e]; exact hj)
  refine ⟨⟨s.ext, fun a h => (s.new a h).imp id .inl, fun a o h n => s.frm a o h fun hm => ?_, fun i a h => .inl ⟨i, h⟩⟩, ⟨s.sub, by rw [h1]; exact r.len, fun j p hp => ?_, r.inj, fun i a h => ⟨fx i a h, ?_⟩, r.io, s.tabs, s.nt⟩⟩
  · obtain ⟨j, _, e⟩ := paired_mem pi a hm
    exact n j e
  · rcases h3 j p hp with ⟨n, hp⟩ | ⟨m, k, v, a, b, c⟩
    · obtain ⟨v, z1, z2⟩ := r.sl j p hp
      refine ⟨v, z1, ?_⟩
      cases z2 with
      | s z => exact .s (z.mono s.ext)
      | o w1 w2 =>
        obtain ⟨o, e1, e2⟩ := w2.plain
        exact .o w1 (w2.mono s.ext (kept j _ w1 n o e1 e2))
      | c z => exact .c (s.ext _ _ z)
      | cl w1 w2 w3 => exact .cl w1 ((kept j _ w1 n _ w2 (fun _ z => nomatch z)).trans w2) (paired_map (fun _ _ ⟨f, a, b⟩ => ⟨f, a, s.ext _ _ b⟩) w3)
    · subst c
      obtain ⟨ad, z1, z2⟩ := ho.get b
      have hO : O j = some ad := paired_get (R := fun i a => O i = some a) pi a z1
      obtain ⟨w, hw⟩ := h4 j m
      obtain ⟨y, y1, y2⟩ := r.sl j _ hw
      cases y2 with
      | o ho2 _ =>
        rw [hO] at ho2; cases ho2
        exact ⟨_, y1, .o hO z2⟩
  · by_cases hm : a ∈ I
    · obtain ⟨k, hk, e⟩ := List.mem_iff_getElem.mp hm
      have hk2 : k < outs.length := by
        have : is.length = I.length := Paired.length pi
        omega
      obtain ⟨b, z1, z2⟩ := ho.get (List.getElem?_eq_getElem hk2)
      have : b = a := by
        rw [List.getElem?_eq_getElem hk, e] at z1
        exact (Option.some.inj z1).symm
      subst this
      exact z2.plain
    · obtain ⟨_, o, z2, z3⟩ := r.out i a h
      exact ⟨o, (s.frm a o z2 hm).same z3, z3⟩
end
end Fx

/-! part Fw8 -/
namespace Fx
open PySem PySem.Spec PyProof.Rows L2

/-! ### a call of a def -/
section
variable {X : Cx} {C : Cf} {e : Expr} {es : List Expr} {fa : En → RE (List PV)} {ms : List PM} {is : List Nat} {p pos : Pos} {kk : Nat} {f : Addr} {fd : FuncData} {ps : List Str} {x : Str} {g : List PV → FR} {kr : Kd}
theorem ev_call (G : FnOk X.prog X.w X.K X.mg X.base (L2.CX X.prog X.w) kk f fd ps (spF X.K C.T C.xc ms kr g)) (hr : Room kk X.A) (hg : Gl X x) (hm : X.mg x = some (.ref f)) (hk : PySem.W.keepIn X.K (.ref f) = true) (hb : Binds X.K fd ps []) (tk : Takes X C.W)
    (nd : is.Nodup) (a : MV X C ms is (e :: es) fa) (hdb : (x == ("__debug__" : Str)) = false := by decide)
    (he : starEach (e :: es) X.env = (false, eval e X.env) :: starEach es X.env := by rfl) (hpl : (backTo pos (starEach es X.env)).any (·.1) = false := by rfl) : EV X C kr (.Call (.Name x p) (e :: es) [] pos) (eFun g is fa) := by
  refine PE.imp (pe_callS G hr hg hm hk hb (fun σ => passAt tk σ) a hdb he hpl) fun σ H Q ⟨F, O, ρ, r, q⟩ => ?_
  unfold eFun at q
  refine tM.bind r (fun vs ρ1 F1 O1 H1 xs e1 s1 r1 p1 => ?_) (fun c ρ1 e1 => ?_) fun e1 => ?_
  · rw [e1] at q
    simp only [RE.bind] at q
    obtain ⟨I, aC, pi⟩ := p1.toC
    have io : ∀ b ∈ I, ∃ i, O1 i = some b := fun b hb => by
      obtain ⟨i, _, hi⟩ := paired_mem pi b hb
      exact ⟨i, hi⟩
    refine ⟨F1, vs, I, r1.sub, r1.tabs, r1.nt, aC, paired_nodup r1.inj pi nd, fun b hb => ?_, ?_⟩
    · obtain ⟨i, hi⟩ := io b hb
      exact (r1.out i b hi).1
    cases eg : g vs with
    | bad => rw [eg] at q; exact q.elim
    | exc c outs =>
      rw [eg] at q
      simp only at q
      split at q
      · rename_i ρ2 hs
        intro F' H' sC oR
        obtain ⟨s2, r2⟩ := r1.called pi sC oR hs
        exact q F' O1 H' (s1.trans s2) r2
      · exact q.elim
    | ret v outs =>
      rw [eg] at q
      simp only at q
      split at q
      · rename_i ρ2 hs
        intro F' H' z sC oR rk
        obtain ⟨s2, r2⟩ := r1.called pi sC oR hs
        refine q F' O1 H' z (s1.trans s2) r2 ?_
        cases kr with
        | sh => exact rk
        | rd => exact rk
        | fr =>
          obtain ⟨b, e2, n1, n2, n3⟩ := rk
          refine ⟨b, e2, NewAt.back s1 (.inl n1), n2, fun i hi => ?_, n3⟩
          obtain ⟨_, o, ho, hp⟩ := r1.out i b hi
          exact n1.no ho hp
      · exact q.elim
  · rw [e1] at q; exact q
  · rw [e1] at q; exact q.elim
/-! ### raise -/
@[simp] def sRaise (c : Nat) (ρ : En) : SR := .exc c ρ
theorem sv_raise {c : Nat} {D : Addr} {st : Pos} (hx : C.xc c = .ref D) (hc : X.calm = true) (tk : Takes X C.W) (pk : PMk X e (fun _ H Q => Q (.ref D) none H)) : SV X C (.Raise (some e) none st) (sRaise c) := by
  refine PS.imp (ps_raise hc tk pk) fun E σ H ⟨F, O, ρ, r, q⟩ => ?_
  have z := q F O σ H .refl r
  rw [hx] at z
  exact z
end

/-! ### an exception that is kept -/
/-- the object at a is an exception of this class -/
def ExO (cl : Value) (a : Addr) : HO := .ext fun h => ∃ (o : Obj), h.get? a = some o ∧ Zc cl none o ∧ (∃ vs, o.data = .fields vs)
section
variable {X : Cx} {pins : List (Addr × Obj)} {σ : L2.St} {H : Hp} {s : Shared}
theorem Inv.track {a : Addr} {cl : Value} {o : Obj} {vs : Array Value} (I : Inv X pins σ H s) (na : H a = none) (ho : s.heap.get? a = some o) (hz : Zc cl none o) (hf : o.data = .fields vs) (n0 : X.s_0.heap.get? a = none) (nL : a ≠ X.env.locals) (nP : ∀ p ∈ X.pn ++ pins, p.1 ≠ a) :
    Inv X pins σ (upd H a (ExO cl a)) s := by
  have same : ∀ {b : Addr} {u : HO}, H b = some u → upd H a (ExO cl a) b = some u := fun {b u} q => by rw [upd_ne (ne_of_none q na)]; exact q
  have less : ∀ {b : Addr}, b ≠ a → H b = none → upd H a (ExO cl a) b = none := fun {b} n q => by rw [upd_ne n]; exact q
  have old : ∀ {b : Addr} {u : Obj}, X.s_0.heap.get? b = some u → b ≠ a := fun {b u} q z => by rw [z, n0] at q; cases q
  refine { I with base := ⟨I.base.keep, I.base.slot, fun b u q n hx => less (old q) (I.base.free b u q n hx), I.base.there, fun b xs q => same (I.base.tups b xs q), fun b u w q => same (I.base.frzs b u w q), fun b qs q => ?_⟩,
                  free := less (fun z => nL z.symm) I.free, freeC := fun y c q => less (fun z => ?_) (I.freeC y c q), pin := fun p hp => ?_, hok := fun b u q => ?_ }
  · obtain ⟨more, z⟩ := I.base.tbls b qs q
    exact ⟨more, same z⟩
  · obtain ⟨w, u, hu, hd⟩ := I.cell y c q
    rw [z, ho] at hu; cases hu
    rw [hf] at hd; cases hd
  · obtain ⟨z1, z2, z3⟩ := I.pin p hp
    exact ⟨z1, less (nP p hp) z2, z3⟩
  · by_cases z : b = a
    · subst z
      rw [upd_same] at q; cases q
      exact ⟨⟨o, ho, hz, vs, hf⟩, ⟨o, ho⟩, fun h1 h2 ⟨u, w1, w2⟩ st => ⟨u, st _ w1, w2⟩⟩
    · rw [upd_ne z] at q
      exact (I.hok b u q).stay (fun _ _ _ h => h) (fun c h => same h) fun c xs h => same h

/-- the clause «except x as n», which takes whatever the body lets out: behind it the exception is kept -/
def wKeep (n : Nat) (K : PySem.W.Frag) (c : Value) (i : Nat) (ts : Addr → TS) (D : Ends) : WX := fun cls d τ G =>
  τ.length = n → d = none ∧ PySem.W.exmOne K cls c = some true ∧ ∀ a, G a = none → ts a { nx := fun τ' G' => D.nx (τ'.set i none) (upd G' a (ExO cls a)), rt := fun _ _ => False } (τ.set i (some (.ref a))) G
theorem ps_try_keep {x n : Str} {c : Value} {i : Nat} {body more : List Stmt} {b₀ : Stmt} {np tp hp : Pos} {tb : WX → TS} {ts : Addr → TS} (stk : X.stack = X.env :: X.outer) (frm : X.env.frame = some X.env.locals) (nox : X.ex = []) (nd : X.N.Nodup) (hi : X.N[i]? = some n) (ln : X.env.kindOf n = some .local) (nm : Names X x c)
    (hb : ∀ (W : WX) (pn : List (Addr × Obj)) (xe : Value → Shared → Prop), Takes (X.tr pn xe) W → PassesOwn (model X.prog X.w) X.A X.env xe → PSs (X.tr pn xe) body (tb W))
    (hs : ∀ (a : Addr) (o : Obj) (pn : List (Addr × Obj)), PSs (X.suite a ((a, o) :: pn)) (b₀ :: more) (ts a)) :
    PS X (.Try body [.ExceptHandler (some (.Name x np)) (some n) (b₀ :: more) hp] [] [] tp) (fun D τ G => tb (wKeep X.N.length X.K c i ts D) D τ G) := by
  refine ⟨fun pins s σ H D I h => wpAny_Try_except ?_⟩
  have hok := I.ok
  have fr0 : X.A.frames = some (X.env :: X.outer) := by rw [hok.frames, stk]
  refine wpAny_mono ((hb (wKeep X.N.length X.K c i ts D) (X.pn ++ pins) (fun u t => wpAny (model X.prog X.w) X.A (noteFrame u X.env)
      (fun _ t1 => wpAny (model X.prog X.w) X.A (setFlight u none) (fun _ t2 => wpAny (model X.prog X.w) X.A (handleBy u X.env [.ExceptHandler (some (.Name x np)) (some n) (b₀ :: more) hp]) (SP X pins D) X.xe t2) X.xe t1) X.xe t) (fun u t tx => ?_) PassesOwn.looking).run [] s σ H D (I.toTry _) h) (fun fl t sp => ?_) fun _ _ z => z
  · obtain ⟨a, B, sI, pins', τ, G, cls, d, rfl, J', nb, up, sky, na, os, ag, hw⟩ := tx
    have J : Inv X pins τ G sI := J'.ofTry hok
    obtain ⟨hd0, hyes, hts⟩ := hw J.len
    subst hd0
    show wpAny (model X.prog X.w) X.A (noteFrame (.ref a) X.env) _ _ _
    refine Sky.land Zc.steady fr0 frm (by rw [← stk]; exact sky) fun g3 fly3 up3 => ?_
    have J3 : Inv X pins τ G { t with heap := g3 } := J.landed nb fly3.1 (up.trans up3) os ag
    obtain ⟨o3, w3, e3, z3, d3⟩ := fly3.there
    have out : a ∉ frs (X.env :: X.outer) := fun hm => by
      obtain ⟨_, o, e, hnf⟩ := fly3.2.2.1.mem hm
      rw [e3] at e; cases e
      exact hnf _ d3
    have oL : a ≠ X.env.locals := fun z => out (List.mem_filterMap.mpr ⟨X.env, List.mem_cons_self, by rw [frm, z]⟩)
    have oF : a ∉ X.fs := fun hm => by
      obtain ⟨v, hv, q⟩ := List.mem_filterMap.mp hm
      exact out (List.mem_filterMap.mpr ⟨v, List.mem_cons_of_mem _ hv, q⟩)
    -- it was not there before
    have aI : sI.heap.get? a = none := by
      cases q : sI.heap.get? a with
      | none => rfl
      | some o =>
        have z := nb a o q (by rw [stk]; exact out)
        have z2 : B.get? a = none := fly3.2.1
        rw [z2] at z; cases z
    have a0 : X.s_0.heap.get? a = none := by
      cases q : X.s_0.heap.get? a with
      | none => rfl
      | some o =>
        obtain ⟨o', q'⟩ := J.base.there a o q (by rw [nox]; exact fun z => nomatch z)
        rw [aI] at q'; cases q'
    have aP : ∀ p ∈ X.pn ++ pins, p.1 ≠ a := fun p hm z => by
      have q := (J.pin p hm).1
      rw [z, aI] at q; cases q
    have S3 := J3.suite e3 d3 na oL oF
    refine wpAny_handleBy_cons (codeAny_handlers_test ?_) (by intro q; cases q)
    have ty : PySem.W.Looks (model X.prog X.w) g3 (typeOf (.ref a)) cls := fun A Q E s k q => wpAny_typeOf_ref (k _ _ e3) (by rw [z3.1]; exact q)
    have cl := PySem.W.exm_one (M := model X.prog X.w) J3.kIn ty hyes
    have named : ∀ {Q E : Value → Shared → Prop}, Q c { t with heap := g3 } → wpAny (model X.prog X.w) (X.A.mark (some (.ref a))) (eval (.Name x np) X.env) Q E { t with heap := g3 } := fun {Q E} q => by
      obtain ⟨g1, g2, m1 | ⟨m1, m2, m3⟩⟩ := nm
      · exact ld_glob (X := X.suite a ((a, o3) :: (X.pn ++ pins))) S3 g1 m1 q g2
      · exact ld_blt (X := X.suite a ((a, o3) :: (X.pn ++ pins))) S3 g1 m1 m2 q m3 g2
    refine named (cl.here (codeAny_handlers_suite_as (HandSPX.lands_againZ fly3 fun g4 fly4 up4 => ?_)))
    have J4 : Inv X pins τ G { t with heap := g4 } := J.landed nb fly4.1 ((up.trans up3).trans up4) os ag
    obtain ⟨o4, w4, e4, z4, d4⟩ := fly4.there
    refine store_ok (X := X.suite a ((a, o4) :: (X.pn ++ pins))) (v := .ref a) (J4.suite e4 d4 na oL oF) nd hi (.inl ln) rfl (fun t5 S5 => ?_) (.inr ln)
    refine wpAny_mono ((hs a o4 (X.pn ++ pins)).run [] t5 _ G _ S5 (hts a na)) (fun fl t6 sp => ?_) fun _ _ z => z.elim
    cases fl with
    | next =>
      obtain ⟨τ6, G6, S6, q6⟩ := sp
      obtain ⟨h6, n6, _⟩ := S6.pin (a, o4) (List.mem_append_left _ List.mem_cons_self)
      exact gone_ok (Inv.track (S6.unsuite hok) n6 h6 z4 d4 a0 oL aP) nd hi ln fun t7 J7 => ⟨_, _, J7, q6⟩
    | brk =>
      obtain ⟨_, _, _, q6⟩ := sp
      exact q6.elim
    | cont =>
      obtain ⟨_, _, _, q6⟩ := sp
      exact q6.elim
    | ret u =>
      obtain ⟨_, _, _, _, _, q6⟩ := sp
      exact q6.elim
  cases fl with
  | next =>
    obtain ⟨τ1, G1, J1, q1⟩ := sp
    exact wpAny_execs_nil ⟨τ1, G1, J1.ofTry hok, q1⟩
  | brk =>
    obtain ⟨τ1, G1, J1, q1⟩ := sp
    exact ⟨τ1, G1, J1.ofTry hok, q1⟩
  | cont =>
    obtain ⟨τ1, G1, J1, q1⟩ := sp
    exact ⟨τ1, G1, J1.ofTry hok, q1⟩
  | ret u =>
    obtain ⟨v1, τ1, G1, J1, w1, q1⟩ := sp
    exact ⟨v1, τ1, G1, J1.ofTry hok, w1, q1⟩
end
end Fx

/-! part Fw9 -/
namespace Fx
open PySem PySem.Spec PyProof.Rows L2

/-! ### isinstance(y, c): y is None, or an exception that the frame keeps -/
def rIsx (K : PySem.W.Frag) : List V → Hp → VK → Prop := fun xs H Q => rIsi K xs H Q ∨
  ∃ (a D : Addr) (c : V) (u : Value) (b : Bool), xs = [.ref a, c] ∧ ClsV c u ∧ H a = some (ExO (.ref D) a) ∧ ExcC K D ∧ PySem.W.kitOne K (.ref D) u = some b ∧ Q (.bl b) H
section
variable {X : Cx}
theorem call_isx : CallR X (.builtin "isinstance") (rIsx X.K) := by
  intro pins s σ H xs us Q I r h
  rcases h with h | ⟨a, D, c, u, b, rfl, k, ha, C, e, q⟩
  · exact call_isi pins s σ H xs us Q I r h
  · obtain ⟨u1, u2, rfl, r1, r2⟩ := vals2 r
    cases r1
    have e2 := k.eq r2
    subst e2
    obtain ⟨⟨o, ho, hz, vs, hv⟩, _, _⟩ := I.hok a _ ha
    have J : PySem.W.InstAt s.heap a o D none := by
      obtain ⟨oc, od, oda, osl⟩ := o
      obtain ⟨h1, h2⟩ := hz
      dsimp only at h1 h2 hv
      subst h1 h2 hv
      exact ⟨ho, rfl, rfl, trivial⟩
    exact PySem.W.kia_one (PySem.W.handS_kitx_exc C.hg C.hk C.hs C.hd C.ha C.hn C.ht C.hm) I.kIn J e (fun z => nomatch z) fun tk => ⟨.bl b, H, I.kept (t' := tk) fun _ _ z => z, rfl, q⟩
/-- the frame's kept exceptions -/
def cloX (xc : Nat → Value) : Nat → Addr → HO := fun j a => ExO (xc j) a
@[simp] def eIsx (i : Nat) (B : List Bool) (ρ : En) : RE PV := match ρ.at i with
  | some (.s .none) => .ok (.bool false) ρ
  | some (.c j) => (match B[j]? with | some b => .ok (.bool b) ρ | none => .bad)
  | _ => .bad
variable {C : Cf}
theorem ev_isx {i : Nat} {y nx : Str} {cv : V} {u : Value} {B : List Bool} {py p1 p pos : Pos} (hclo : C.clo = cloX C.xc) (hg : Gl X "isinstance") (hm : X.mg "isinstance" = none) (hy : PE X (.Name y py) (tVar i)) (hc : PE X (.Name nx p1) (tC cv)) (kv : ClsV cv u)
    (hN : PySem.W.kitOne X.K (.type "NoneType") u = some false) (hB : ∀ j b, B[j]? = some b → ∃ D, C.xc j = .ref D ∧ ExcC X.K D ∧ PySem.W.kitOne X.K (.ref D) u = some b)
    (he : starEach [.Name y py, .Name nx p1] X.env = (false, eval (.Name y py) X.env) :: starEach [.Name nx p1] X.env := by rfl) (hpl : (backTo pos (starEach [.Name nx p1] X.env)).any (·.1) = false := by rfl)
    (hs : starEach [.Name nx p1] X.env = (false, eval (.Name nx p1) X.env) :: starEach [] X.env := by rfl) : EV X C .sh (.Call (.Name "isinstance" p) [.Name y py, .Name nx p1] [] pos) (eIsx i B) := by
  refine PE.imp (pe_callB call_isx hg hm (by decide +kernel) (pa_cons hy (pa_cons hc pa_nil hs) he) (by decide) (by decide) he hpl) fun σ H Q ⟨F, O, ρ, r, q⟩ => ?_
  unfold eIsx at q
  split at q
  · rename_i h0
    obtain ⟨v, hv, sl⟩ := r.get h0
    cases sl with
    | s z =>
      cases z
      exact ⟨_, hv, .inl ⟨.non, cv, _, u, false, rfl, kv, .base .non, hN, q F O H _ .refl r (.bl false)⟩⟩
  · rename_i j h0
    obtain ⟨v, hv, sl⟩ := r.get h0
    split at q
    · rename_i b hb
      obtain ⟨D, e1, e2, e3⟩ := hB j b hb
      cases sl with
      | c z =>
        rw [hclo] at z
        unfold cloX at z
        rw [e1] at z
        exact ⟨_, hv, .inr ⟨_, D, cv, u, b, rfl, kv, r.sub _ _ z, e2, e3, q F O H _ .refl r (.bl b)⟩⟩
    · exact q.elim
  · exact q.elim
end

/-! ### later -/
section
variable {K : PySem.W.Frag} {C : Cf} {F H G : Hp} {O : Own} {σ : L2.St} {ρ : En}
theorem Rel.later (r : Rel K C F O σ H ρ) (k : ∀ b o, H b = some o → Kept o (G b)) (t : LamX.Tabs C.T G) : Step F H O F G O ∧ Rel K C F O σ G ρ := by
  have ow : ∀ i a, O i = some a → G a = H a := fun i a h => by
    obtain ⟨_, o, h2, h3⟩ := r.out i a h
    rw [h2]; exact (k a o h2).same h3
  refine ⟨⟨.refl _, fun _ h => .inl h, fun a o h _ => k a o h, fun i a h => .inl ⟨i, h⟩⟩, ⟨fun b o h => (k b o (r.sub b o h)).same fun ps z => r.nt b ps (by rw [← z]; exact h), r.len, fun i p h => ?_, r.inj, fun i a h => ?_, r.io, t, r.nt⟩⟩
  · obtain ⟨v, h1, h2⟩ := r.sl i p h
    exact ⟨v, h1, h2.mono (.refl _) fun a ha => ow i a ha⟩
  · rw [ow i a h]; exact r.out i a h
theorem Rel.wish (r : Rel K C F O σ H ρ) (W : WX) : Rel K { C with W := W } F O σ H ρ :=
  ⟨r.sub, r.len, fun i p h => let ⟨v, a, b⟩ := r.sl i p h; ⟨v, a, match b with | .s x => .s x | .o x y => .o x y | .c x => .c x | .cl x y z => .cl x y z⟩, r.inj, r.out, r.io, r.tabs, r.nt⟩
theorem Rel.unwish {W : WX} (r : Rel K { C with W := W } F O σ H ρ) : Rel K C F O σ H ρ :=
  ⟨r.sub, r.len, fun i p h => let ⟨v, a, b⟩ := r.sl i p h; ⟨v, a, match b with | .s x => .s x | .o x y => .o x y | .c x => .c x | .cl x y z => .cl x y z⟩, r.inj, r.out, r.io, r.tabs, r.nt⟩
end

/-! ### what the def promises that calls what it is handed, and tells the refusal's marks -/
def KeptAll (G G' : Hp) : Prop := ∀ b o, G b = some o → Kept o (G' b)
def wRef (T : List (Addr × Str)) (xc : Nat → Value) (okc : Nat → Bool) (marks : Nat → List Int) (Q : VK) : XK := fun cls d G =>
  d = none ∧ ∃ c, cls = xc c ∧ okc c = true ∧ LamX.Tabs T G ∧ ∀ a G', Fre G a → KeptAll G G' → LamX.Tabs T G' → G' a = some (.lst ((marks c).map V.int)) → Q (.ref a) G'
def TTr (T : List (Addr × Str)) (xc : Nat → Value) (okc : Nat → Bool) (marks : Nat → List Int) : (XK → Hp → VK → Prop) → Hp → VK → Prop := fun tl H Q =>
  tl (wRef T xc okc marks Q) H fun _ G => LamX.Tabs T G ∧ ∀ G', KeptAll G G' → LamX.Tabs T G' → Q .non G'
@[simp] def eRef (okc : Nat → Bool) (marks : Nat → List Int) (fE : En → RE PV) (ρ : En) : RE PV := match fE ρ with
  | .ok _ ρ1 => .ok .none ρ1
  | .exc c ρ1 => if okc c then .ok (.list ((marks c).map .int)) ρ1 else .bad
  | .bad => .bad
theorem repA_ints {K : PySem.W.Frag} {F : Hp} : ∀ (l : List Int), RepA K F (l.map V.int) (l.map PyData.int)
  | [] => .nil
  | i :: l => .cons (.int i) (repA_ints l)
theorem repA_intsE {K : PySem.W.Frag} {F : Hp} : ∀ {l : List Int} {vs : List V}, RepA K F vs (l.map PyData.int) → vs = l.map V.int
  | [], _, .nil => rfl
  | i :: l, _, .cons h t => by
    cases h
    rw [repA_intsE t]; rfl
section
variable {X : Cx} {C : Cf} {e : Expr} {fE : En → RE PV} {okc : Nat → Bool} {marks : Nat → List Int}
abbrev Cf.wishE (C : Cf) (E : XK) : Cf := { C with W := fun cls d _ G => E cls d G }
theorem ev_refused (hl : PE X e (LamX.tLam C.T (TTr C.T C.xc okc marks) (fun E => tE X.K (C.wishE E) .sh fE))) : EV X C .sh e (eRef okc marks fE) := by
  refine PE.imp hl fun σ H Q ⟨F, O, ρ, r, q⟩ => ⟨r.tabs, fun H1 eN T1 => ?_⟩
  have k1 : ∀ b o, H b = some o → Kept o (H1 b) := fun b o h => by
    by_cases z : ∃ ps, o = .tbl ps
    · exact .inr z
    · exact .inl (eN b o h fun ps y => z ⟨ps, y⟩)
  obtain ⟨s1, r1⟩ := r.later k1 T1
  refine ⟨F, O, ρ, r1.wish _, ?_⟩
  unfold eRef at q
  cases ef : fE ρ with
  | bad => rw [ef] at q; exact q.elim
  | ok v ρ1 =>
    rw [ef] at q
    intro F2 O2 H2 x s2 r2 _
    have r2 := r2.unwish
    refine ⟨r2.tabs, fun G' k t => ?_⟩
    obtain ⟨s3, r3⟩ := r2.later k t
    exact q F2 O2 G' .non ((s1.trans s2).trans s3) r3 .non
  | exc c ρ1 =>
    rw [ef] at q
    simp only at q
    split at q
    · rename_i hok
      intro F2 O2 H2 s2 r2
      have r2 := r2.unwish
      refine ⟨rfl, c, rfl, hok, r2.tabs, fun a G' fa k t ha => ?_⟩
      obtain ⟨s3, r3⟩ := r2.later k t
      have sA := (s1.trans s2).trans s3
      have fr : Fresh X.K H O F2 O2 G' a (.list ((marks c).map .int)) := by
        refine ⟨NewAt.back (s1.trans s2) (.inl fa), ?_, fun i z => ?_, .lst ha (repA_ints _)⟩
        · cases z : F2 a with
          | none => rfl
          | some o =>
            obtain ⟨ps, y⟩ := fa o (r2.sub a o z)
            subst y
            exact absurd z (r2.nt a ps)
        · obtain ⟨_, o, y1, y2⟩ := r2.out i a z
          exact fa.no y1 y2
      obtain ⟨F4, s4, r4, p4, _⟩ := fr.share sA r3
      exact q F4 O2 G' _ s4 r4 p4
    · exact q.elim
end

/-! ### the def itself -/
section
theorem _root_.L2.PE.weak {X : Cx} {e : Expr} {t : TE} (h : PE X e t) : PE X e fun σ H Q => ∃ Q1 : VK, t σ H Q1 ∧ ∀ v G, Q1 v G → Q v G :=
  ⟨fun pins s σ H Q I ⟨Q1, q, w⟩ => wpAny_mono (h.run pins s σ H Q1 I q) (fun u s1 ⟨v, H1, I1, r1, q1⟩ => ⟨v, H1, I1, r1, w v H1 q1⟩) fun _ _ z => z⟩
variable {X : Cx}
abbrev Zr (X : Cx) (Ng : List Str) (x : Str) (sg : Scope) (g : Addr) (cdg : Value) (s : Shared) (H : Hp) : Cx := (cxOf C8.CX0 X.prog X.w X.K X.mg X.base Ng x sg g cdg X.A X.stack s H C8.E0).nox
def cfR (T : List (Addr × Str)) (xc : Nat → Value) : Cf := ⟨[], [], xc, cloX xc, fun _ _ _ _ => False, .sh, T⟩
theorem ref_gives {T : List (Addr × Str)} {xc : Nat → Value} {okc : Nat → Bool} {marks : Nat → List Int} {Ng : List Str} {x a er en nearN q : Str} {sg : Scope} {g near : Addr} {cdg : Value} {il ie : Nat} {rest : List Stmt} {gR : En → SR} {j0 : Nat} {p0 p1 p2 p3 p4 p5 p6 p7 p8 p9 p10 p11 : Pos}
    (nd : Ng.Nodup) (h0 : 0 < Ng.length) (hl : Ng[il]? = some er) (he : Ng[ie]? = some en) (ll : sg.names.lookup er = some .local) (le : sg.names.lookup en = some .local) (n0 : il ≠ 0) (nie : ie ≠ 0) (nn : il ≠ ie)
    (hde : (en == ("__debug__" : Str)) = false) (hce : (en == ("__classdict__" : Str)) = false) (sw : ∀ s H, swapsWith (.Name en p6) (some (.Name er p5)) p7.line (Zr X Ng x sg g cdg s H).env = pure false)
    (sw0 : ∀ s H, swapsWith (.Constant .none j0 p1) (some (.Name er p0)) p2.line (Zr X Ng x sg g cdg s H).env = pure false) (sw1 : ∀ s H, swapsWith (.Call (.Name a p3) [] [] p4) none p11.line (Zr X Ng x sg g cdg s H).env = pure false)
    (hg : sg.names.lookup nearN = some .globalImplicit) (hnd : (nearN == ("__debug__" : Str)) = false) (hm : X.mg nearN = some (.ref near)) (hx : ∀ c, okc c = true → PySem.W.exmOne X.K (xc c) (.ref near) = some true)
    (hr : ∀ s H, SVs (Zr X Ng x sg g cdg s H) (cfR T xc) rest gR)
    (gN : ∃ ρ', gR ((List.replicate Ng.length none).set il (some (.s .none))) = .ret .none ρ') (gX : ∀ c, okc c = true → ∃ ρ', gR ((List.replicate Ng.length none).set il (some (.c c))) = .ret (.list ((marks c).map .int)) ρ') :
    LamX.GivesTo X Ng x sg g cdg (.Assign [.Name er p0] (.Constant .none j0 p1) p2 :: .Try [.Expr (.Call (.Name a p3) [] [] p4) p11] [.ExceptHandler (some (.Name nearN p8)) (some en) [.Assign [.Name er p5] (.Name en p6) p7] p9] [] [] p10 :: rest) a q (TTr T xc okc marks) := by
  intro f c' s H Q tl act hc h
  have lt : il < Ng.length := (List.getElem?_eq_some_iff.mp hl).1
  have lte : ie < Ng.length := (List.getElem?_eq_some_iff.mp he).1
  have hgl : Gl (Zr X Ng x sg g cdg s H) nearN := hg
  refine ⟨_, pss_cons (ps_set (X := Zr X Ng x sg g cdg s H) (i := il) nd hl (.inl ll) pe_non (sw0 s H) (.inr ll)) (pss_cons (ps_try_keep (X := Zr X Ng x sg g cdg s H) (c := .ref near) (i := ie)
      (tb := fun W D σ H => ∃ Ech : XK, (∀ cls d σ' H', Ech cls d H' → W cls d σ' H') ∧ ∃ Q1 : VK, (σ[0]? = some (some (.ref f)) ∧ H c' = some (LamX.CodeO c' q) ∧ tl Ech H Q1) ∧ ∀ v G, Q1 v G → D.nx σ G)
      (ts := fun _ => tAsg (tVar ie) (gName il))
      rfl rfl rfl nd he le ⟨hgl, hnd, .inl hm⟩ (fun W pn xe tk _ => ?_) (fun b o pn => pss_one (ps_set nd hl (.inl ll) (pe_var he (.inl le) hde hce) (sw s H) (.inr ll)))) (hr s H)), ?_⟩
  · refine ⟨fun pins s' σ H' D I h' => ?_⟩
    obtain ⟨Ech, hW, Q1, z1, z2⟩ := h'
    exact (pss_one (ps_expr (pos := p11) (act W pn xe Ech p3 p4 tk hW).weak (sw1 s H))).run pins s' σ H' D I ⟨Q1, z1, z2⟩
  · have len : (L2.start Ng [V.ref f]).length = Ng.length := by
      unfold L2.start
      simp; omega
    -- what stands behind the clause
    have fin : ∀ {G : Hp} {F : Hp} {σ : L2.St} {sv : Sv} {v : PV} {G0 : Hp}, Rel X.K (cfR T xc) F (fun _ => none) σ G ((List.replicate Ng.length none).set il (some sv)) → (∃ ρ', gR ((List.replicate Ng.length none).set il (some sv)) = .ret v ρ') → (∀ b o, G0 b = some o → G b = some o) →
        (∀ F' H' y, Step F G (fun _ => none) F' H' (fun _ => none) ∨ True → KeptAll G0 H' → LamX.Tabs T H' → Rep X.K F' y v → Same F' H' → (∀ b, F' b ≠ none → F b ≠ none ∨ Fre G b) → Q y H') →
        tS X.K (cfR T xc) gR { nx := fun _ H' => Q .non H', rt := Q } σ G := fun {G F σ sv v G0} r ⟨ρ', e⟩ k w => by
      refine ⟨F, _, _, r, ?_⟩
      rw [e]
      intro F' O' σ' H' y s' r' p'
      refine w F' H' y (.inr trivial) (fun b o z => s'.frm b o (k b o z) fun i z => by cases z) r'.tabs p' r'.sub fun b z => ?_
      rcases s'.new b z with y1 | y1 | ⟨i, y1⟩
      · exact .inl y1
      · exact .inr y1
      · cases y1
    refine ⟨wRef T xc okc marks Q, fun cls d τ G hw lenτ => ?_, _, ⟨?_, hc, h⟩, fun v G ⟨tb, hQ⟩ => ?_⟩
    · obtain ⟨hd, c, hcl, hok, tb, hQ⟩ := hw
      subst hcl
      refine ⟨hd, hx c hok, fun b nb => ⟨_, List.getElem?_set_self (by rw [lenτ]; exact lte), ?_⟩⟩
      show tS X.K (cfR T xc) gR _ _ _
      have nt0 : NT (fun _ => none : Hp) := fun _ _ z => by cases z
      refine fin (F := upd (fun _ => none) b (ExO (xc c) b)) (sv := .c c) (v := .list ((marks c).map .int)) (G0 := G) ⟨fun y o z => ?_, ?_, fun i p z => ?_, fun i j y z _ => by (cases z), fun i y z => by (cases z), fun p z => by (cases z), LamX.Tabs.ext tb fun y o z => ?_, nt0.put fun ps z => nomatch z⟩ (gX c hok) (fun y o z => ?_) (fun F' H' y _ k t p sb nw => ?_)
      · by_cases w : y = b
        · subst w; rw [upd_same] at z ⊢; exact z
        · rw [upd_ne w] at z; cases z
      · show _ = ((((τ.set ie _).set il _).set ie none)).length
        simp only [List.length_set, List.length_replicate]; exact lenτ.symm
      · rcases getElem_set z with ⟨w, w2, _⟩ | ⟨_, z⟩
        · subst w; cases w2
          refine ⟨.ref b, ?_, .c upd_same⟩
          show ((((τ.set ie _).set _ _).set ie none))[_]? = _
          rw [List.getElem?_set_ne (Ne.symm nn), List.getElem?_set_self (by rw [List.length_set, lenτ]; exact lt)]
        · rw [List.getElem?_replicate] at z
          split at z <;> cases z
      · rw [upd_ne (ne_of_none z nb)]; exact z
      · rw [upd_ne (ne_of_none z nb)]; exact z
      · cases p with
        | lst q1 q2 =>
          rename_i a2 xs
          have := repA_intsE q2
          subst this
          refine hQ a2 H' ?_ k t (sb _ _ q1)
          rcases nw a2 (by rw [q1]; exact fun z => nomatch z) with z | z
          · by_cases w : a2 = b
            · subst w
              intro o ho; rw [nb] at ho; cases ho
            · rw [upd_ne w] at z; exact absurd rfl z
          · intro o ho
            exact z o (by rw [upd_ne (ne_of_none ho nb)]; exact ho)
    · show ((L2.start Ng [V.ref f]).set il _)[0]? = _
      rw [List.getElem?_set_ne n0]
      unfold L2.start
      rfl
    · have nt0 : NT (fun _ => none : Hp) := fun _ _ z => by cases z
      refine fin (F := fun _ => none) (sv := .s .none) (v := .none) (G0 := G) ⟨fun y o z => by (cases z), ?_, fun i p z => ?_, fun i j y z _ => by (cases z), fun i y z => by (cases z), fun p z => by (cases z), tb, nt0⟩ gN (fun _ _ z => z) (fun F' H' y _ k t p sb nw => ?_)
      · show _ = ((L2.start Ng [V.ref f]).set il _).length
        simp only [List.length_set, List.length_replicate]; exact len.symm
      · rcases getElem_set z with ⟨w, w2, _⟩ | ⟨_, z⟩
        · subst w; cases w2
          exact ⟨.non, List.getElem?_set_self (by rw [len]; exact lt), .s .non⟩
        · rw [List.getElem?_replicate] at z
          split at z <;> cases z
      · cases p
        exact hQ H' k t
end
end Fx

/-! part Fw10 -/
namespace Fx
open PySem PySem.Spec PyProof.Rows L2

/-! ### a def, by its promise alone -/
structure Def (P : Program) (w : World) (K : PySem.W.Frag) (mg : Str → Option Value) (base : Heap) (T : List (Addr × Str)) (xc : Nat → Value) (x : Str) (lev : Nat) (ps : List Str) (ms : List PM) (kr : Kd) (g : List PV → FR) : Prop where
  ex : ∃ (f : Addr) (fd : FuncData), FnOk P w K mg base (L2.CX P w) lev f fd ps (spF K T xc ms kr g) ∧ mg x = some (.ref f) ∧ PySem.W.keepIn K (.ref f) = true ∧ Binds K fd ps [] ∧ ∃ (oc : Value) (od : Option Addr) (osl : Array (Option Value)), K.lookup f = some ⟨oc, od, .func fd, osl⟩
section
variable {X : Cx} {C : Cf} {e : Expr} {es : List Expr} {fa : En → RE (List PV)} {ms : List PM} {is : List Nat} {p pos : Pos} {lev k : Nat} {ps : List Str} {x : Str} {g : List PV → FR} {kr : Kd}
theorem ev_callD (D : Def X.prog X.w X.K X.mg X.base C.T C.xc x lev ps ms kr g) (hr : Room k X.A) (hk : lev ≤ k) (hg : Gl X x) (tk : Takes X C.W) (nd : is.Nodup) (a : MV X C ms is (e :: es) fa) (hdb : (x == ("__debug__" : Str)) = false := by decide)
    (he : starEach (e :: es) X.env = (false, eval e X.env) :: starEach es X.env := by rfl) (hpl : (backTo pos (starEach es X.env)).any (·.1) = false := by rfl) : EV X C kr (.Call (.Name x p) (e :: es) [] pos) (eFun g is fa) := by
  obtain ⟨f, fd, G, hm, kp, hb, _⟩ := D.ex
  exact ev_call G (hr.mono hk) hg hm kp hb tk nd a hdb he hpl
/-- {} -/
theorem ev_dict0 {pos : Pos} : EV X C .sh (.Dict [] [] pos) (eC (.dict [])) := by
  refine PE.imp pe_dnewK fun σ H Q ⟨F, O, ρ, r, q⟩ => fun a n => ?_
  exact q (upd F a (.dK [])) O _ _ (r.allocF n).2 (r.allocF n).1 (.dK upd_same .nil)
/-- a name of the module -/
theorem ev_gint {x : Str} {i : Int} {u : Value} {pos : Pos} (hg : Gl X x) (hm : X.mg x = some u) (hu : RelV (.int i) u) (hd : (x == ("__debug__" : Str)) = false := by decide) : EV X C .sh (.Name x pos) (eC (.int i)) := ev_c (pe_glob (v := .int i) hg hm hu hd) fun _ => .int i
theorem ev_gtup {x : Str} {a : Addr} {vs : List V} {ds : List PV} {pos : Pos} (hg : Gl X x) (hm : X.mg x = some (.ref a)) (hT : ∀ F, TupAt X.K F a vs) (hR : ∀ F, RepA X.K F vs ds) (hd : (x == ("__debug__" : Str)) = false := by decide) : EV X C .sh (.Name x pos) (eC (.tuple ds)) :=
  ev_c (pe_glob (v := .ref a) hg hm rfl hd) fun F => .tup (hT F) (hR F)
end

/-! ### the def that tells a refusal's marks -/
structure RefDef (P : Program) (w : World) (K : PySem.W.Frag) (mg : Str → Option Value) (base : Heap) (T : List (Addr × Str)) (xc : Nat → Value) (okc : Nat → Bool) (marks : Nat → List Int) (x a : Str) : Prop where
  ex : ∃ (g : Addr) (pg : Arguments) (bg : List Stmt) (sg : Scope) (dV kV doc pm cdv ct oc : Value) (an od : Option Addr) (osl : Array (Option Value)) (Ng : List Str), mg x = some (.ref g) ∧ PySem.W.keepIn K (.ref g) = true ∧
    K.lookup g = some ⟨oc, od, .func (PySem.W.fnOf x x pg bg sg dV kV doc pm an cdv ct), osl⟩ ∧ PySem.W.codeIn K cdv x = true ∧ L2.Binds K (PySem.W.fnOf x x pg bg sg dV kV doc pm an cdv ct) [a] [] ∧ FnScope Ng [a] sg ∧ Ng[0]? = some a ∧ Vis sg a ∧
    ∀ X : Cx, X.prog = P → X.w = w → X.K = K → X.mg = mg → X.base = base → ∀ q, LamX.GivesTo X Ng x sg g cdv bg a q (TTr T xc okc marks)
section
variable {X : Cx} {C : Cf}
theorem ev_ref {okc : Nat → Bool} {marks : Nat → List Int} {x a : Str} {c Pt : Addr} {k kk : Nat} {params : Arguments} {body : Expr} {scope : Scope} {fE : En → RE PV} {p lpos pos : Pos} (D : RefDef X.prog X.w X.K X.mg X.base C.T C.xc okc marks x a) (hg : Gl X x)
    (TB : LamX.TabB X.base X.mg c Pt) (hcode : X.env.code = .ref c) (hmT : (Pt, X.env.qual ++ "<lambda>") ∈ C.T) (hu : ∀ p ∈ C.T, p.1 = Pt → p.2 = X.env.qual ++ "<lambda>") (hr0 : Room kk X.A) (hk : k + 2 ≤ kk) (L : LamX.LamS X.env.scope scope) (hdef : defaultsOf params X.env = ([], []))
    (hbind : ∀ (q : Str) (cl : List (Str × Addr)) (pm cv ctv : Value), bindArgs (PySem.W.kla_fn "<lambda>" q params body scope cl pm cv ctv) ⟨[], []⟩ = pure [])
    (hbody : ∀ (A : Around) (outer : List Env) (s : Shared) (H : Hp) (E : XK) (f c' : Addr), Room k (LamX.lamCx X A outer s H E scope f c').A → EV (LamX.lamCx X A outer s H E scope f c') (C.wishE E) .sh body fE)
    (hdb : (x == ("__debug__" : Str)) = false := by decide) (hd : (a == ("__debug__" : Str)) = false := by decide) (hcd : (a == ("__classdict__" : Str)) = false := by decide) : EV X C .sh (.Call (.Name x p) [.Lambda params body scope lpos] [] pos) (eRef okc marks fE) := by
  obtain ⟨g, pg, bg, sg, dV, kV, doc, pm, cdv, ct, oc, an, od, osl, Ng, h1, h2, h3, h4, h5, h6, h7, h8, h9⟩ := D.ex
  exact ev_refused (LamX.pe_lamcall hg h1 h2 h3 h4 h5 h6 h7 h8 (h9 X rfl rfl rfl rfl rfl _) TB hcode hmT hu (hr0.mono hk) L hdef hbind (fun A outer s H E f c' hr => hbody A outer s H E f c' hr) hdb hd hcd)
end

/-! ### the law -/
def scr (ns : List Int) : PV := .dict [(.none, .list (ns.map .int))]
theorem spF_law {K : PySem.W.Frag} {T : List (Addr × Str)} {xc : Nat → Value} {g : List PV → FR} {H : Hp} {a : Addr} {ns : List Int} (tb : LamX.Tabs T H) (hS : SqL K H a (ns.map V.int)) (hg : g [scr ns] = .ret (.bool true) []) :
    spF K T xc [.s] .sh g [.ref a] H (fun v _ => v = .bl true) fun _ _ _ => False := by
  refine ⟨fun b => match H b with | some (.tbl _) => none | o => o, [scr ns], [], fun b o h => ?_, tb, fun b ps h => ?_, .s (.scr ?_ (repA_ints ns)) .nil, List.nodup_nil, fun _ h => (by cases h), ?_⟩
  · simp only at h
    split at h
    · cases h
    · exact h
  · simp only at h
    split at h
    · cases h
    · rename_i n
      exact n ps h
  · rcases hS with (h | ⟨o, h⟩) | h
    · refine .inl (.inl ?_)
      simp only [h]
    · refine .inl (.inr ⟨o, ?_⟩)
      simp only [h]
    · exact .inr h
  · rw [hg]
    intro F' H' x _ _ r
    have r : Rep K F' x (.bool true) := r
    cases r
    rfl
theorem tabs_cs {T : List (Addr × Str)} {H : Hp} (h : ∀ p ∈ T, H p.1 = some (.tbl #[])) : LamX.Tabs T H := fun p hp => .nil (h p hp)
theorem walkT {l : PySem.W.OpenLaw} {n k : Nat} {q : Program} {loose : List Str} {XP : (Str → Option Value) → Heap → Prop} {YP : World → Heap → Prop} {d : DefRec} {K : Params → PySem.W.Frag} {x : Str}
    (hn : l.most = some n) (hn2 : n ≤ sizeLine) (hdf : d.params.defaults = []) (hr : Room k callerA) (hY : ∀ (w : World) (h : Heap), YP w h → (K w.params).In h)
    (F : ∀ (w : World) (mg : Str → Option Value) (fa : Addr) (h : Heap), YP w h → (K w.params).In h → h.Ns mainGlobals mg → mg d.name = some (.ref fa) →
      (∀ (nm : Str), ((recsOf q).find? fun e => e.name == nm).isSome = true → ∀ c Pt, PySem.W.tabIn (K w.params) nm = some (c, Pt) → PySem.W.CodeHd h c Pt ∧ h.get? Pt = some (PySem.W.tabObj #[])) → LamX.LawAtS l w (K w.params) (L2.CX l.prog w) k n x mg fa h) :
    PySem.W.WalkO q loose XP YP l.row.toRowW d [] (fun f vs => PySem.call f vs) := by
  refine Att.attach_callB hn hdf fun w s₀ s₁ mg mb fa o pm cd doc a vs ns G Y ho hd hcd hmg hobj hints hlen hbits hg => ?_
  have kin := hY w _ Y
  obtain ⟨fd, cs, sp, t1, t2, t3, t4, t5, t6⟩ := F w mg fa _ Y kin G.T.g hmg fun nm hs c Pt ht => by
    obtain ⟨r, hr⟩ := Option.isSome_iff_exists.mp hs
    exact PySem.W.tab_of G.T kin hr ht
  exact LamX.law_callTs kin G.T.g G.T.b G.T.builtins G.T.nolimit hg t1 t2 t3 G.T.bmain hobj hints (Nat.le_trans hlen hn2) hr t6 t4 (fun H e1 e2 => t5 H a ns hlen hbits e1 e2) fun _ _ _ ⟨_, _, _, _, _, _, _, _, _, _, _, _, z⟩ => z
end Fx

/-! part Fw11 -/
namespace Fx
open PySem PySem.Spec PyProof.Rows L2
theorem nio {C : Cf} {l : List Nat} {i : Nat} (h : C.ioS = l) (d : l.contains i = false) : i ∉ C.ioS := by
  rw [h]; intro z
  rw [List.contains_iff_mem.mpr z] at d; cases d
theorem nios {C : Cf} {l is : List Nat} (h : C.ioS = l) (d : is.all (fun i => !l.contains i) = true) : ∀ i ∈ is, i ∉ C.ioS := fun i hi => by
  have z := List.all_eq_true.mp d i hi
  exact nio h (by simpa using z)
section
variable {P : Program} {w : World} {K : PySem.W.Frag} {mg : Str → Option Value} {base : Heap} {T : List (Addr × Str)} {xc : Nat → Value}
theorem def_of {x : Str} {st : Stmt} {f : Addr} {oc dV kV doc pm cdv ct : Value} {od an : Option Addr} {osl : Array (Option Value)} {N ps : List Str} {k : Nat} {ms : List PM} {kr : Kd} {clo : Cx → Nat → Addr → HO} {g : En → SR}
    (lk : K.lookup f = some ⟨oc, od, .func (PySem.W.fnOf x x (defArgs st) (defBody st) (defScope st) dV kV doc pm an cdv ct), osl⟩) (hcd : PySem.W.codeIn K cdv x = true) (kp : PySem.W.keepIn K (.ref f) = true) (hm : mg x = some (.ref f)) (S : FnScope N ps (defScope st)) (hl : ms.length = ps.length) (hn : ps.length ≤ N.length)
    (hb : ∀ us : List Value, us.length = ps.length → bindArgs (PySem.W.fnOf x x (defArgs st) (defBody st) (defScope st) dV kV doc pm an cdv ct) ⟨us, []⟩ = pure (ps.zip us))
    (body : ∀ (A : Around) (outer : List Env) (s : Shared) (H : Hp) (E : XK) (I : List Addr), Room k (cxOf (L2.CX P w) P w K mg base N x (defScope st) f cdv A outer s H E).A →
      SVs (cxOf (L2.CX P w) P w K mg base N x (defScope st) f cdv A outer s H E) (cfOf T ms I xc (clo (cxOf (L2.CX P w) P w K mg base N x (defScope st) f cdv A outer s H E)) kr E) (defBody st) g) : Def P w K mg base T xc x (k + 1) ps ms kr (runF' kr N.length ms g) :=
  ⟨_, _, okF (clo := clo) lk hcd S hl hn body, hm, kp, .all hb, _, _, _, lk⟩
theorem def_bad {x : Str} {st : Stmt} {f : Addr} {oc dV kV doc pm cdv ct : Value} {od an : Option Addr} {osl : Array (Option Value)} {ps : List Str} {k : Nat} {ms : List PM} {kr : Kd}
    (lk : K.lookup f = some ⟨oc, od, .func (PySem.W.fnOf x x (defArgs st) (defBody st) (defScope st) dV kV doc pm an cdv ct), osl⟩) (kp : PySem.W.keepIn K (.ref f) = true) (hm : mg x = some (.ref f))
    (hb : ∀ us : List Value, us.length = ps.length → bindArgs (PySem.W.fnOf x x (defArgs st) (defBody st) (defScope st) dV kV doc pm an cdv ct) ⟨us, []⟩ = pure (ps.zip us)) : Def P w K mg base T xc x k ps ms kr (fun _ => .bad) := by
  have no : ∀ vs H Q E, ¬ spF K T xc ms kr (fun _ => .bad) vs H Q E := fun vs H Q E ⟨_, _, _, _, _, _, _, _, _, q⟩ => q
  exact ⟨_, PySem.W.fnOf x x (defArgs st) (defBody st) (defScope st) dV kV doc pm an cdv ct, ⟨fun vs H Q E h => absurd h (no vs H Q E), fun A outer s H args us vs Q E _ _ _ _ h => absurd h (no vs H Q E)⟩, hm, kp, .all hb, _, _, _, lk⟩
/-- a class that is raised -/
structure RaiseD (K : PySem.W.Frag) (mg : Str → Option Value) (xc : Nat → Value) (c : Nat) (x : Str) : Prop where
  ex : ∃ D : Addr, xc c = .ref D ∧ ∀ X : Cx, X.K = K → X.mg = mg → Gl X x → ∀ (m : Str) (j : Nat) (p p2 pos : Pos), PMk X (.Call (.Name x p) [.Constant (.str m) j p2] [] pos) (fun _ H Q => Q (.ref D) none H)
theorem raise_of {c : Nat} {x : Str} {D : Addr} {bmB : List Value} (hx : xc c = .ref D) (q : PySem.W.excIn K D bmB "BaseException.__new__" = true) (gC : mg x = some (.ref D)) (kC : PySem.W.keepIn K (.ref D) = true)
    (b1 : PySem.W.subIn K (.ref D) (.type "BaseException") = some true) (t1 : PySem.W.typeIn K (.ref D) = some (.type "type")) (hdb : (x == ("__debug__" : Str)) = false)
    (F : ∃ B initId, ExcBaseFacts B "BaseException.__new__" initId bmB) : RaiseD K mg xc c x := by
  obtain ⟨B, ii, F⟩ := F
  refine ⟨D, hx, fun X hK hm hg m j p p2 pos => ?_⟩
  subst hK hm
  exact pmk_own F q gC kC (raises_own b1 t1) hg hdb
theorem sv_raiseD {X : Cx} {C : Cf} {c : Nat} {x m : Str} {j : Nat} {p p2 pos st : Pos} (D : RaiseD X.K X.mg C.xc c x) (hc : X.calm = true) (tk : Takes X C.W) (hg : Gl X x) : SV X C (.Raise (some (.Call (.Name x p) [.Constant (.str m) j p2] [] pos)) none st) (sRaise c) := by
  obtain ⟨A, hx, h⟩ := D.ex
  exact sv_raise hx hc tk (h X rfl rfl hg m j p p2 pos)
end
end Fx
namespace Fx
open PySem PySem.Spec PyProof.Rows L2
theorem u65 {k : Nat} {A : Around} (r : Room k A) : A.units + 65 < cLine := by have := r.un; omega
/-- where a def stands -/
structure At (K : PySem.W.Frag) (mg : Str → Option Value) (x : Str) (st : Stmt) : Prop where
  ex : ∃ (f : Addr) (oc kV doc pm cdv ct : Value) (od an : Option Addr) (osl : Array (Option Value)), K.lookup f = some ⟨oc, od, .func (PySem.W.fnOf x x (defArgs st) (defBody st) (defScope st) .none kV doc pm an cdv ct), osl⟩ ∧ PySem.W.codeIn K cdv x = true ∧ PySem.W.keepIn K (.ref f) = true ∧ mg x = some (.ref f)
structure AtC (K : PySem.W.Frag) (mg : Str → Option Value) (x : Str) (st : Stmt) (c : Addr) : Prop where
  ex : ∃ (f : Addr) (oc kV doc pm ct : Value) (od an : Option Addr) (osl : Array (Option Value)), K.lookup f = some ⟨oc, od, .func (PySem.W.fnOf x x (defArgs st) (defBody st) (defScope st) .none kV doc pm an (.ref c) ct), osl⟩ ∧ PySem.W.codeIn K (.ref c) x = true ∧ PySem.W.keepIn K (.ref f) = true ∧ mg x = some (.ref f)
abbrev lamQ (x : Str) : Str := (x ++ ".<locals>.") ++ "<lambda>"
section
variable {P : Program} {w : World} {K : PySem.W.Frag} {mg : Str → Option Value} {base : Heap} {T : List (Addr × Str)} {xc : Nat → Value} {x : Str} {st : Stmt} {N ps : List Str} {k : Nat} {ms : List PM} {kr : Kd} {g : En → SR}
theorem def_at (A : At K mg x st) (S : FnScope N ps (defScope st)) (hl : ms.length = ps.length) (hn : ps.length ≤ N.length)
    (hb : ∀ (kV doc pm : Value) (an : Option Addr) (cdv ct : Value) (us : List Value), us.length = ps.length → bindArgs (PySem.W.fnOf x x (defArgs st) (defBody st) (defScope st) .none kV doc pm an cdv ct) ⟨us, []⟩ = pure (ps.zip us))
    (body : ∀ (f : Addr) (cdv : Value) (A : Around) (outer : List Env) (s : Shared) (H : Hp) (E : XK) (I : List Addr), Room k (cxOf (L2.CX P w) P w K mg base N x (defScope st) f cdv A outer s H E).A →
      SVs (cxOf (L2.CX P w) P w K mg base N x (defScope st) f cdv A outer s H E) (cfOf T ms I xc (cloX xc) kr E) (defBody st) g) : Def P w K mg base T xc x (k + 1) ps ms kr (runF' kr N.length ms g) := by
  obtain ⟨f, oc, kV, doc, pm, cdv, ct, od, an, osl, lk, hcd, kp, hm⟩ := A.ex
  exact def_of (clo := fun _ => cloX xc) lk hcd kp hm S hl hn (hb kV doc pm an cdv ct) (body f cdv)
theorem def_atC {c : Addr} (A : AtC K mg x st c) (S : FnScope N ps (defScope st)) (hl : ms.length = ps.length) (hn : ps.length ≤ N.length)
    (hb : ∀ (kV doc pm : Value) (an : Option Addr) (cdv ct : Value) (us : List Value), us.length = ps.length → bindArgs (PySem.W.fnOf x x (defArgs st) (defBody st) (defScope st) .none kV doc pm an cdv ct) ⟨us, []⟩ = pure (ps.zip us))
    (body : ∀ (f : Addr) (A : Around) (outer : List Env) (s : Shared) (H : Hp) (E : XK) (I : List Addr), Room k (cxOf (L2.CX P w) P w K mg base N x (defScope st) f (.ref c) A outer s H E).A →
      SVs (cxOf (L2.CX P w) P w K mg base N x (defScope st) f (.ref c) A outer s H E) (cfOf T ms I xc (cloX xc) kr E) (defBody st) g) : Def P w K mg base T xc x (k + 1) ps ms kr (runF' kr N.length ms g) := by
  obtain ⟨f, oc, kV, doc, pm, ct, od, an, osl, lk, hcd, kp, hm⟩ := A.ex
  exact def_of (clo := fun _ => cloX xc) lk hcd kp hm S hl hn (hb kV doc pm an (.ref c) ct) (body f)
theorem def_at0 (A : At K mg x st)
    (hb : ∀ (kV doc pm : Value) (an : Option Addr) (cdv ct : Value) (us : List Value), us.length = ps.length → bindArgs (PySem.W.fnOf x x (defArgs st) (defBody st) (defScope st) .none kV doc pm an cdv ct) ⟨us, []⟩ = pure (ps.zip us)) : Def P w K mg base T xc x k ps ms kr (fun _ => .bad) := by
  obtain ⟨f, oc, kV, doc, pm, cdv, ct, od, an, osl, lk, hcd, kp, hm⟩ := A.ex
  exact def_bad lk kp hm (hb kV doc pm an cdv ct)
/-- the module's numbers and tuples -/
structure GI (mg : Str → Option Value) (x : Str) (i : Int) : Prop where
  ex : ∃ u, mg x = some u ∧ RelV (.int i) u
theorem ev_gi {X : Cx} {C : Cf} {x : Str} {i : Int} {pos : Pos} (G : GI X.mg x i) (hg : Gl X x) (hd : (x == ("__debug__" : Str)) = false := by decide) : EV X C .sh (.Name x pos) (eC (.int i)) := by
  obtain ⟨u, h1, h2⟩ := G.ex
  exact ev_gint hg h1 h2 hd
structure GT (K : PySem.W.Frag) (mg : Str → Option Value) (x : Str) (ds : List PV) : Prop where
  ex : ∃ a vs, mg x = some (.ref a) ∧ (∀ F, TupAt K F a vs) ∧ ∀ F, RepA K F vs ds
theorem ev_gt {X : Cx} {C : Cf} {x : Str} {ds : List PV} {pos : Pos} (G : GT X.K X.mg x ds) (hg : Gl X x) (hd : (x == ("__debug__" : Str)) = false := by decide) : EV X C .sh (.Name x pos) (eC (.tuple ds)) := by
  obtain ⟨a, vs, h1, h2, h3⟩ := G.ex
  exact ev_gtup hg h1 h2 h3 hd
/-- isinstance(y, x) for the kept exceptions: B tells which -/
structure IsxD (K : PySem.W.Frag) (mg : Str → Option Value) (xc : Nat → Value) (x : Str) (B : List Bool) : Prop where
  ex : ∃ (cv : V) (u : Value), ClsV cv u ∧ (∀ (X : Cx) (p : Pos), X.K = K → X.mg = mg → Gl X x → PE X (.Name x p) (tC cv)) ∧ PySem.W.kitOne K (.type "NoneType") u = some false ∧ ∀ j b, B[j]? = some b → ∃ D, xc j = .ref D ∧ ExcC K D ∧ PySem.W.kitOne K (.ref D) u = some b
theorem ev_isxD {X : Cx} {C : Cf} {i : Nat} {y nx : Str} {B : List Bool} {py p1 p pos : Pos} (D : IsxD X.K X.mg C.xc nx B) (hgx : Gl X nx) (hclo : C.clo = cloX C.xc) (hg : Gl X "isinstance") (hm : X.mg "isinstance" = none) (hy : PE X (.Name y py) (tVar i))
    (he : starEach [.Name y py, .Name nx p1] X.env = (false, eval (.Name y py) X.env) :: starEach [.Name nx p1] X.env := by rfl) (hpl : (backTo pos (starEach [.Name nx p1] X.env)).any (·.1) = false := by rfl)
    (hs : starEach [.Name nx p1] X.env = (false, eval (.Name nx p1) X.env) :: starEach [] X.env := by rfl) : EV X C .sh (.Call (.Name "isinstance" p) [.Name y py, .Name nx p1] [] pos) (eIsx i B) := by
  obtain ⟨cv, u, h1, h2, h3, h4⟩ := D.ex
  exact ev_isx hclo hg hm hy (h2 X p1 rfl rfl hgx) h1 h3 h4 he hpl hs
end
end Fx

/-! part Fw12 -/
namespace Fx
open PySem PySem.Spec PyProof.Rows L2
/-! ### range with a step -/
def upC (lo c : Int) (n : Nat) : List PV := (List.range n).map fun i => .int (lo + (i : Nat) * c)
theorem upC_get {lo c : Int} {n i : Nat} {p : PV} (h : (upC lo c n)[i]? = some p) : p = .int (lo + (i : Nat) * c) := by
  unfold upC at h
  rw [List.getElem?_map] at h
  cases q : (List.range n)[i]? with
  | none => rw [q] at h; cases h
  | some j =>
    rw [q] at h
    obtain ⟨h1, h2⟩ := List.getElem?_eq_some_iff.mp q
    rw [List.getElem_range] at h2
    subst h2
    exact (Option.some.inj h).symm
section
variable {X : Cx} {C : Cf} {tx : Expr} {tg : Tg} {p pos : Pos}
theorem itOk_rngC {K : PySem.W.Frag} {F : Hp} {lo c : Int} {n : Nat} : ItOk K F tg (Itc lo c n) (upC lo c n) :=
  ⟨fun H i s h => by show i < n; unfold upC at h; simpa using h, fun H i s h => by show n ≤ i; unfold upC at h; simpa using h, fun H i x H' p s y q => by
    obtain ⟨e, y⟩ := y
    rw [upC_get q, y]
    exact ⟨.inl e, .s (.int _), fun _ _ => .int _⟩⟩
@[simp] def iR3 (fa : En → RE (List PV)) (ρ : En) : RE (List PV) := (fa ρ).bind fun v ρ1 => match v with
  | [.int i, .int j, .int c] => if c ≠ 0 ∧ c.natAbs < 1073741824 ∧ Builtin.Range.small i j c = true ∧ 0 ≤ Builtin.Range.rangeSize i j c then .ok (upC i c (Builtin.Range.rangeSize i j c).toNat) ρ1 else .bad
  | _ => .bad
theorem RepRA.three {K : PySem.W.Frag} {F H : Hp} {vs : List V} {a b c : PV} (h : RepRA K F H vs [a, b, c]) : ∃ x y z, vs = [x, y, z] ∧ RepR K F H x a ∧ RepR K F H y b ∧ RepR K F H z c := by
  cases h with | cons h1 h => cases h with | cons h2 h => cases h with | cons h3 h => cases h; exact ⟨_, _, _, rfl, h1, h2, h3⟩
theorem iv_r3 {a b c : Expr} {fa : En → RE (List PV)} (hg : Gl X "range") (hm : X.mg "range" = none) (ha : AV X C .rd [a, b, c] fa) (hs : starEach [a, b, c] X.env = (false, eval a X.env) :: starEach [b, c] X.env := by rfl) (hpl : (backTo pos (starEach [b, c] X.env)).any (·.1) = false := by rfl) :
    IV X C tx tg (.Call (.Name "range" p) [a, b, c] [] pos) (iR3 fa) := by
  refine PI.imp (pi_range3 hg hm ha hs hpl) fun σ H R ⟨F, O, ρ, r, q⟩ => ?_
  unfold iR3 at q
  refine tA.bind r (fun v ρ1 F1 O1 H1 x e1 s1 r1 p1 => ?_) (fun c ρ1 e1 => ?_) fun e1 => ?_
  · rw [e1] at q
    simp only [RE.bind] at q
    split at q
    · split at q
      · rename_i h
        obtain ⟨y, z, u, rfl, hy, hz, hu⟩ := RepRA.three p1
        exact ⟨_, _, _, _, by rw [hy.intE, hz.intE, hu.intE], ⟨h.1, h.2.1, h.2.2.1, by have := h.2.2.2; omega⟩, q F1 O1 H1 _ s1 r1 itOk_rngC⟩
      · exact q.elim
    · exact q.elim
  · rw [e1] at q; exact q
  · rw [e1] at q; exact q.elim
end
/-! ### from the facts of the head -/
section
variable {K : PySem.W.Frag} {h : Heap} {mg : Str → Option Value}
theorem at_mk {x : Str} {st : Stmt} {f : Addr} {oc kV doc pm cdv ct : Value} {od an : Option Addr} {osl : Array (Option Value)} (X : K.In h) (G : h.Ns mainGlobals mg) (a : PySem.W.nsIn K mainGlobals x = some (some (.ref f)))
    (l : K.lookup f = some ⟨oc, od, .func (PySem.W.fnOf x x (defArgs st) (defBody st) (defScope st) .none kV doc pm an cdv ct), osl⟩) (c : PySem.W.codeIn K cdv x = true) (k : PySem.W.keepIn K (.ref f) = true) : At K mg x st :=
  ⟨f, oc, kV, doc, pm, cdv, ct, od, an, osl, l, c, k, PySem.W.mg_of X G a⟩
theorem atC_mk {x : Str} {st : Stmt} {f cd : Addr} {oc kV doc pm ct : Value} {od an : Option Addr} {osl : Array (Option Value)} (X : K.In h) (G : h.Ns mainGlobals mg) (a : PySem.W.nsIn K mainGlobals x = some (some (.ref f)))
    (l : K.lookup f = some ⟨oc, od, .func (PySem.W.fnOf x x (defArgs st) (defBody st) (defScope st) .none kV doc pm an (.ref cd) ct), osl⟩) (c : PySem.W.codeIn K (.ref cd) x = true) (k : PySem.W.keepIn K (.ref f) = true) : AtC K mg x st cd :=
  ⟨f, oc, kV, doc, pm, ct, od, an, osl, l, c, k, PySem.W.mg_of X G a⟩
theorem gi_mk {x : Str} {u : Value} {i : Int} (X : K.In h) (G : h.Ns mainGlobals mg) (a : PySem.W.nsIn K mainGlobals x = some (some u)) (r : RelV (.int i) u) : GI mg x i := ⟨u, PySem.W.mg_of X G a, r⟩
theorem gt_mk {x : Str} {a : Addr} {its : Array Value} {n : Nat} {sl : Array (Option Value)} {vs : List V} {ds : List PV} (X : K.In h) (G : h.Ns mainGlobals mg) (e : PySem.W.nsIn K mainGlobals x = some (some (.ref a))) (l : K.lookup a = some ⟨.type "tuple", none, .seq its n, sl⟩)
    (hz : its.size ≤ sizeLine) (r : Vals vs its.toList) (q : ∀ F, RepA K F vs ds) : GT K mg x ds := ⟨a, vs, PySem.W.mg_of X G e, fun F => .inr ⟨_, its, n, l, rfl, rfl, rfl, hz, r⟩, q⟩
theorem raise_mk {xc : Nat → Value} {c : Nat} {x : Str} {D : Addr} (X : K.In h) (G : h.Ns mainGlobals mg) (hx : xc c = .ref D) (a : PySem.W.nsIn K mainGlobals x = some (some (.ref D))) (k : PySem.W.keepIn K (.ref D) = true)
    (q : PySem.W.excIn K D [Value.type "ValueError", Value.type "Exception", Value.type "BaseException", Value.type "object"] "ValueError.__new__" = true) (b : PySem.W.subIn K (.ref D) (.type "BaseException") = some true) (t : PySem.W.typeIn K (.ref D) = some (.type "type")) (hd : (x == ("__debug__" : Str)) = false) : RaiseD K mg xc c x := by
  refine ⟨D, hx, fun Y hK hm hg m j p p2 pos => ?_⟩
  have gC := PySem.W.mg_of X G a
  subst hK hm
  exact pmk_own PySem.F.excBase_ValueError q gC k (raises_own b t) hg hd
/-- the facts of one raised class -/
structure ClsF (K : PySem.W.Frag) (D : Addr) : Prop where
  k : PySem.W.keepIn K (.ref D) = true
  q : PySem.W.excIn K D [Value.type "ValueError", Value.type "Exception", Value.type "BaseException", Value.type "object"] "ValueError.__new__" = true
  t : PySem.W.typeIn K (.ref D) = some (.type "type")
  c : ExcC K D
theorem raiseF {xc : Nat → Value} {c : Nat} {x : Str} {D : Addr} (X : K.In h) (G : h.Ns mainGlobals mg) (hx : xc c = .ref D) (a : PySem.W.nsIn K mainGlobals x = some (some (.ref D))) (f : ClsF K D) (hd : (x == ("__debug__" : Str)) = false) : RaiseD K mg xc c x :=
  raise_mk X G hx a f.k f.q f.c.hs f.t hd
theorem isx_mk {xc : Nat → Value} {x : Str} {DT : Addr} {B : List Bool} {L : List Addr} (X : K.In h) (G : h.Ns mainGlobals mg) (a : PySem.W.nsIn K mainGlobals x = some (some (.ref DT))) (hN : PySem.W.kitOne K (.type "NoneType") (.ref DT) = some false) (hd : (x == ("__debug__" : Str)) = false)
    (hxc : xc = fun c => (L.map Value.ref).getD c .none) (hl : B.length = L.length) (hC : ∀ D ∈ L, ClsF K D) (hk : L.map (fun D => PySem.W.kitOne K (.ref D) (.ref DT)) = B.map some) : IsxD K mg xc x B := by
  refine ⟨.ref DT, .ref DT, .own DT, fun Y p hK hm hg => ?_, hN, fun j b hb => ?_⟩
  · have gC := PySem.W.mg_of X G a
    subst hK hm
    exact pe_glob hg gC rfl hd
  · have hj : j < L.length := by rw [← hl]; exact (List.getElem?_eq_some_iff.mp hb).1
    refine ⟨L[j], ?_, (hC _ (List.getElem_mem hj)).c, ?_⟩
    · rw [hxc]; simp [List.getD, List.getElem?_eq_getElem hj]
    · have z := congrArg (·[j]?) hk
      simp only [List.getElem?_map, List.getElem?_eq_getElem hj, hb, Option.map_some] at z
      exact Option.some.inj z
theorem isxB_mk {xc : Nat → Value} {x : Str} {n : String} {B : List Bool} {L : List Addr} (X : K.In h) (G : h.Ns mainGlobals mg) (a : PySem.W.nsIn K mainGlobals x = some none) (hv : bootBuiltins x = some (.type n)) (hN : PySem.W.kitOne K (.type "NoneType") (.type n) = some false) (hn : x ≠ "__name__") (hd : (x == ("__debug__" : Str)) = false)
    (hxc : xc = fun c => (L.map Value.ref).getD c .none) (hl : B.length = L.length) (hC : ∀ D ∈ L, ClsF K D) (hk : L.map (fun D => PySem.W.kitOne K (.ref D) (.type n)) = B.map some) : IsxD K mg xc x B := by
  refine ⟨.ty n, .type n, .ty n, fun Y p hK hm hg => ?_, hN, fun j b hb => ?_⟩
  · have gC := PySem.W.mg_none_of X G a
    subst hK hm
    exact pe_bltn hg gC hv rfl hn hd
  · have hj : j < L.length := by rw [← hl]; exact (List.getElem?_eq_some_iff.mp hb).1
    refine ⟨L[j], ?_, (hC _ (List.getElem_mem hj)).c, ?_⟩
    · rw [hxc]; simp [List.getD, List.getElem?_eq_getElem hj]
    · have z := congrArg (·[j]?) hk
      simp only [List.getElem?_map, List.getElem?_eq_getElem hj, hb, Option.map_some] at z
      exact Option.some.inj z
theorem exm_mk {xc : Nat → Value} {okc : Nat → Bool} {near : Addr} {L : List Addr} (hxc : xc = fun c => (L.map Value.ref).getD c .none) (hok : ∀ c, okc c = true → c < L.length) (hk : L.map (fun D => PySem.W.exmOne K (.ref D) (.ref near)) = L.map fun _ => some true) : ∀ c, okc c = true → PySem.W.exmOne K (xc c) (.ref near) = some true := fun c h => by
  have hj := hok c h
  have z := congrArg (·[c]?) hk
  simp only [List.getElem?_map, List.getElem?_eq_getElem hj, Option.map_some] at z
  have e : xc c = .ref L[c] := by rw [hxc]; simp [List.getD, List.getElem?_eq_getElem hj]
  rw [e]; exact Option.some.inj z
theorem tabIn_mk {x : Str} {ps : Arguments} {bd : List Stmt} {sc : Scope} {f cd Pt : Addr} {oc dV kV doc pm ct : Value} {od an : Option Addr} {osl : Array (Option Value)} {te : Value} {td : Option Addr} {tv : Array Value} {ts : Array (Option Value)} (a : PySem.W.nsIn K mainGlobals x = some (some (.ref f)))
    (l : K.lookup f = some ⟨oc, od, .func (PySem.W.fnOf x x ps bd sc dV kV doc pm an (.ref cd) ct), osl⟩) (t : K.lookup cd = some ⟨te, td, .fields tv, ts⟩) (e : tv[11]? = some (.ref Pt)) : PySem.W.tabIn K x = some (cd, Pt) := by
  unfold PySem.W.tabIn
  rw [a]
  simp only [l, t, e]
/-- the law's end -/
theorem law_end {l : PySem.W.OpenLaw} {w : World} {fa : Addr} {T : List (Addr × Str)} {cs : List (Addr × Addr)} {xc : Nat → Value} {st : Stmt} {x : Str} {lev : Nat} {g : List PV → FR} {f : Addr} {oc kV doc pm cdv ct : Value} {od an : Option Addr} {osl : Array (Option Value)} (X : K.In h) (G : h.Ns mainGlobals mg) (hfa : mg "law" = some (.ref fa))
    (a : PySem.W.nsIn K mainGlobals "law" = some (some (.ref f))) (lk : K.lookup f = some ⟨oc, od, .func (PySem.W.fnOf "law" "law" (defArgs st) (defBody st) (defScope st) .none kV doc pm an cdv ct), osl⟩)
    (hb : ∀ (s : Shared) (u : Value), BindsTo s (PySem.W.fnOf "law" "law" (defArgs st) (defBody st) (defScope st) .none kV doc pm an cdv ct) ⟨[u], []⟩ [(x, u)])
    (hT : T.map (·.1) = cs.map (·.2)) (tab : ∀ p ∈ cs, PySem.W.CodeHd h p.1 p.2 ∧ h.get? p.2 = some (PySem.W.tabObj #[])) (hK : ∀ p ∈ cs, K.lookup p.2 = none)
    (hg : ∀ ns : List Int, ns.length ≤ 63 → (∀ z ∈ ns, Builtin.Int.intBits z ≤ 1048576) → g [scr ns] = .ret (.bool true) [])
    (D : ∀ base : Heap, (∀ p ∈ cs, LamX.TabB base mg p.1 p.2) → Def l.prog w K mg base T xc "law" lev [x] [.s] .sh g) : LamX.LawAtS l w K (L2.CX l.prog w) lev 63 x mg fa h := by
  have e := hfa.symm.trans (PySem.W.mg_of X G a)
  cases e
  refine ⟨_, cs, spF K T xc [.s] .sh g, fun p hp => (tab p hp).2, hK, fun p hp => (tab p hp).1, hb, fun H a ns hl hbits ht hS => spF_law (tabs_cs fun p hp => ?_) hS (hg ns hl hbits), fun base _ _ TB => ?_⟩
  · have : p.1 ∈ cs.map (·.2) := by rw [← hT]; exact List.mem_map.mpr ⟨p, hp, rfl⟩
    obtain ⟨q, hq, e⟩ := List.mem_map.mp this
    rw [← e]; exact ht q hq
  · obtain ⟨f', fd', F, hm, _, _, oc', od', osl', lk'⟩ := (D base TB).ex
    have e := hfa.symm.trans hm
    cases e
    rw [lk] at lk'
    cases lk'
    exact F
end
theorem GG_MOST {X : Cx} {C : Cf} {i : Int} {pos : Pos} (G : GI X.mg "MOST" i) (hg : Gl X "MOST") : EV X C .sh (.Name "MOST" pos) (eC (.int i)) := ev_gi G hg
theorem GG_FIGURES {X : Cx} {C : Cf} {i : Int} {pos : Pos} (G : GI X.mg "FIGURES" i) (hg : Gl X "FIGURES") : EV X C .sh (.Name "FIGURES" pos) (eC (.int i)) := ev_gi G hg
theorem GG_HALVES {X : Cx} {C : Cf} {ds : List PV} {pos : Pos} (G : GT X.K X.mg "HALVES" ds) (hg : Gl X "HALVES") : EV X C .sh (.Name "HALVES" pos) (eC (.tuple ds)) := ev_gt G hg
end Fx

/-! part G73 -/
namespace K73
open PySem PySem.Spec PyProof.Rows L2 Fx
def top (i : Nat) : Stmt := PySem.Challenge.pw_nearorders_k73_fences_and_crowns.main.body.getD i (.Pass ⟨0, 0, 0, 0⟩)
/-- the built-in names that the text leaves alone -/
structure BN (mg : Str → Option Value) : Prop where
  n_abs : mg "abs" = none
  n_all : mg "all" = none
  n_bool : mg "bool" = none
  n_int : mg "int" = none
  n_isinstance : mg "isinstance" = none
  n_len : mg "len" = none
  n_list : mg "list" = none
  n_max : mg "max" = none
  n_min : mg "min" = none
  n_range : mg "range" = none
  n_tuple : mg "tuple" = none
  n_zip : mg "zip" = none
def c_MOST : PV := .int 6
def c_HALVES : PV := .tuple [.int 2, .int 3]
def okc (c : Nat) : Bool := decide (c < 1)
def marks (c : Nat) : List Int := ([[1]] : List (List Int)).getD c []
def b_NoOrder : List Bool := [false]
def b_NoNumber : List Bool := [true]
def b_NoPairs : List Bool := [false]
def b_Round : List Bool := [false]
def b_NoThing : List Bool := [false]
def b_NoRow : List Bool := [false]
def b_TooMany : List Bool := [false]
def b_TooFew : List Bool := [false]
def b_NoText : List Bool := [false]
def b_NoLine : List Bool := [false]
def b_NoDeed : List Bool := [false]
def b_NoSeating : List Bool := [false]
def b_NoRing : List Bool := [false]
def b_NoSizes : List Bool := [false]
def b_ValueError : List Bool := [true]
/-! ### is_whole -/
def n_is_whole : List Str := ["thing"]
theorem sc_is_whole : FnScope n_is_whole ["thing"] (defScope (top 18)) := ⟨rfl, rfl, rfl, by decide +kernel, rfl, by decide +kernel, by decide +kernel⟩
def s_is_whole : En → SR :=
  (sRet (eAnd (eIsi "int" (eVar 0)) (eNot (eIsi "bool" (eVar 0)))))
def f_is_whole : List PV → FR := runF' .sh n_is_whole.length [.s] s_is_whole
theorem ok_is_whole {P : Program} {w : World} {K : PySem.W.Frag} {mg : Str → Option Value} {base : Heap} {T : List (Addr × Str)} {xc : Nat → Value} (A : At K mg "is_whole" (top 18)) (hB : BN mg) : Def P w K mg base T xc "is_whole" (1) ["thing"] [.s] .sh f_is_whole :=
  def_at (k := 0) A sc_is_whole rfl (by decide) (fun _ _ _ _ _ _ us hl => match us, hl with | [_], _ => rfl) fun f cdv A outer s H E I hr =>
    (sv_one (sv_ret (ev_and (ev_isi rfl hB.n_isinstance (ev_sr (ev_var (pv 0))) rfl hB.n_int rfl) (ev_one (ev_not (ev_isi rfl hB.n_isinstance (ev_sr (ev_var (pv 0))) rfl hB.n_bool rfl))))))
/-! ### is_number -/
def n_is_number : List Str := ["thing"]
theorem sc_is_number : FnScope n_is_number ["thing"] (defScope (top 19)) := ⟨rfl, rfl, rfl, by decide +kernel, rfl, by decide +kernel, by decide +kernel⟩
def s_is_number : En → SR :=
  (sRet (eAnd (eFun f_is_whole [] (aCons (eVar 0) aNil)) (eChn leP leP (eC (.int 1)) (eVar 0) (eC c_MOST))))
def f_is_number : List PV → FR := runF' .sh n_is_number.length [.s] s_is_number
theorem ok_is_number {P : Program} {w : World} {K : PySem.W.Frag} {mg : Str → Option Value} {base : Heap} {T : List (Addr × Str)} {xc : Nat → Value} (A : At K mg "is_number" (top 19)) (hB : BN mg) (D_is_whole : Def P w K mg base T xc "is_whole" 1 ["thing"] [.s] .sh f_is_whole) (G_MOST : GI mg "MOST" 6) : Def P w K mg base T xc "is_number" (2) ["thing"] [.s] .sh f_is_number :=
  def_at (k := 1) A sc_is_number rfl (by decide) (fun _ _ _ _ _ _ us hl => match us, hl with | [_], _ => rfl) fun f cdv A outer s H E I hr =>
    (sv_one (sv_ret (ev_and (ev_callD D_is_whole hr (by omega) rfl (takes_of rfl rfl rfl rfl) (by decide) (mv_s (ev_var (pv 0)) mv_nil)) (ev_one (ev_chn ob_le ob_le ev_int (ev_var (pv 0)) (GG_MOST G_MOST rfl))))))
/-! ### fence -/
def n_fence : List Str := ["many", "pairs", "thing", "other"]
theorem sc_fence : FnScope n_fence ["many"] (defScope (top 22)) := ⟨rfl, rfl, rfl, by decide +kernel, rfl, by decide +kernel, by decide +kernel⟩
def s_fence_b0 : En → SR :=
  (sExpr (eMut 1 gExtend (aCons (eLC (.n 3) [3] (iSeq (eTup (aCons (eOp subV (pE (eVar 2) (eC (.int 1)))) (aCons (eOp addV (pE (eVar 2) (eC (.int 1)))) aNil)))) (bChn leP ltP' (eC (.int 0)) (eVar 3) (eVar 0)) (eTup (aCons (eVar 2) (aCons (eVar 3) aNil)))) aNil)))
def s_fence : En → SR :=
  (sSeq (sIf (bNot (bVal (eFun f_is_number [] (aCons (eVar 0) aNil)))) (sRaise 0) sNil)
    (sSeq (sAsgO 1 (eLst aNil))
    (sSeq (sFor (.n 2) (iR3 (aCons (eC (.int 0)) (aCons (eVar 0) (aCons (eC (.int 2)) aNil)))) s_fence_b0)
    (sRet (eTup (aCons (eVar 0) (aCons (eCal tupleV (aLate 1 aNil)) aNil)))))))
def f_fence : List PV → FR := runF' .sh n_fence.length [.s] s_fence
theorem ok_fence {P : Program} {w : World} {K : PySem.W.Frag} {mg : Str → Option Value} {base : Heap} {T : List (Addr × Str)} {xc : Nat → Value} (A : At K mg "fence" (top 22)) (hB : BN mg) (D_is_number : Def P w K mg base T xc "is_number" 2 ["thing"] [.s] .sh f_is_number) (R_NoNumber : RaiseD K mg xc 0 "NoNumber") : Def P w K mg base T xc "fence" (3) ["many"] [.s] .sh f_fence :=
  def_at (k := 2) A sc_fence rfl (by decide) (fun _ _ _ _ _ _ us hl => match us, hl with | [_], _ => rfl) fun f cdv A outer s H E I hr =>
    (sv_cons (sv_if (tv_not (tv_val (ev_callD D_is_number hr (by omega) rfl (takes_of rfl rfl rfl rfl) (by decide) (mv_s (ev_var (pv 0)) mv_nil)))) (sv_one (sv_raiseD R_NoNumber rfl (takes_of rfl rfl rfl rfl) rfl)) sv_nil)
    (sv_cons (sv_asgO (ev_lst av_nil) (nio (l := []) rfl rfl) sc_fence.nd rfl (by first | exact .inl rfl | exact .inr rfl))
    (sv_cons (sv_for (passes_of rfl) rfl (iv_r3 rfl hB.n_range (avr_cons (by decide) ev_int (avr_cons (by decide) (ev_var (pv 0)) (avr_cons (by decide) ev_int av_nil)))) (gv_n sc_fence.nd rfl (by first | exact .inl rfl | exact .inr rfl)) (nios (l := []) rfl rfl) (sv_one (sv_expr (ev_mut PySem.F.slot_list_extend rfl mt_extend an_extend (pv 1) (avr_cons (by decide) (ev_lc [3] rfl rfl sc_fence.nd (iv_seq (ev_tup (av_cons (ev_sub (e2_e (by decide) (ev_var (pv 2)) ev_int)) (av_cons (ev_add (e2_e (by decide) (ev_var (pv 2)) ev_int)) av_nil)))) (blkOk_by (own := [("other", 3)]) (N := n_fence) (sc := defScope (top 22)) (by decide +kernel)) (by decide) (nios (l := []) rfl rfl) (fun _ _ _ _ _ => (gv_n sc_fence.nd rfl (by first | exact .inl rfl | exact .inr rfl))) (fun _ _ _ _ _ => (nv_one (tv_chn ob_le ob_lt ev_int (ev_var (pv 3)) (ev_var (pv 0))))) (fun _ _ _ _ _ => (ev_tup (av_cons (ev_var (pv 2)) (av_cons (ev_var (pv 3)) av_nil))))) av_nil)))))
    (sv_one (sv_ret (ev_tup (av_cons (ev_var (pv 0)) (av_cons (ev_tuple rfl hB.n_tuple (avr_late (pv 1) av_nil)) av_nil))))))))
/-! ### crown -/
def n_crown : List Str := ["half", "pairs", "low", "high"]
theorem sc_crown : FnScope n_crown ["half"] (defScope (top 23)) := ⟨rfl, rfl, rfl, by decide +kernel, rfl, by decide +kernel, by decide +kernel⟩
def s_crown_b0 : En → SR :=
  (sExpr (eMut 1 gExtend (aCons (eLC (.n 3) [3] (iR1 (aCons (eVar 0) aNil)) (bCmp neP (pE (eVar 3) (eVar 2))) (eTup (aCons (eVar 2) (aCons (eOp addV (pE (eVar 0) (eVar 3))) aNil)))) aNil)))
def s_crown : En → SR :=
  (sSeq (sIf (bOr (bNot (bVal (eFun f_is_whole [] (aCons (eVar 0) aNil)))) (bCmp niP (pE (eVar 0) (eC c_HALVES)))) (sRaise 0) sNil)
    (sSeq (sAsgO 1 (eLst aNil))
    (sSeq (sFor (.n 2) (iR1 (aCons (eVar 0) aNil)) s_crown_b0)
    (sRet (eTup (aCons (eOp mulV (pE (eC (.int 2)) (eVar 0))) (aCons (eCal tupleV (aLate 1 aNil)) aNil)))))))
def f_crown : List PV → FR := runF' .sh n_crown.length [.s] s_crown
theorem ok_crown {P : Program} {w : World} {K : PySem.W.Frag} {mg : Str → Option Value} {base : Heap} {T : List (Addr × Str)} {xc : Nat → Value} (A : At K mg "crown" (top 23)) (hB : BN mg) (D_is_whole : Def P w K mg base T xc "is_whole" 1 ["thing"] [.s] .sh f_is_whole) (R_NoNumber : RaiseD K mg xc 0 "NoNumber") (G_HALVES : GT K mg "HALVES" [.int 2, .int 3]) : Def P w K mg base T xc "crown" (2) ["half"] [.s] .sh f_crown :=
  def_at (k := 1) A sc_crown rfl (by decide) (fun _ _ _ _ _ _ us hl => match us, hl with | [_], _ => rfl) fun f cdv A outer s H E I hr =>
    (sv_cons (sv_if (tv_w (wv_or (tv_not (tv_val (ev_callD D_is_whole hr (by omega) rfl (takes_of rfl rfl rfl rfl) (by decide) (mv_s (ev_var (pv 0)) mv_nil)))) (wv_or1 (tv_cmp (ob_ni (u65 hr)) (e2_e (by decide) (ev_var (pv 0)) (GG_HALVES G_HALVES rfl)) rfl)))) (sv_one (sv_raiseD R_NoNumber rfl (takes_of rfl rfl rfl rfl) rfl)) sv_nil)
    (sv_cons (sv_asgO (ev_lst av_nil) (nio (l := []) rfl rfl) sc_crown.nd rfl (by first | exact .inl rfl | exact .inr rfl))
    (sv_cons (sv_for (passes_of rfl) rfl (iv_r1 rfl hB.n_range (avr_cons (by decide) (ev_var (pv 0)) av_nil)) (gv_n sc_crown.nd rfl (by first | exact .inl rfl | exact .inr rfl)) (nios (l := []) rfl rfl) (sv_one (sv_expr (ev_mut PySem.F.slot_list_extend rfl mt_extend an_extend (pv 1) (avr_cons (by decide) (ev_lc [3] rfl rfl sc_crown.nd (iv_r1 rfl hB.n_range (avr_cons (by decide) (ev_var (pv 0)) av_nil)) (blkOk_by (own := [("high", 3)]) (N := n_crown) (sc := defScope (top 23)) (by decide +kernel)) (by decide) (nios (l := []) rfl rfl) (fun _ _ _ _ _ => (gv_n sc_crown.nd rfl (by first | exact .inl rfl | exact .inr rfl))) (fun _ _ _ _ _ => (nv_one (tv_cmp (ob_ne hr.units) (e2_e (by decide) (ev_var (pv 3)) (ev_var (pv 2))) rfl))) (fun _ _ _ _ _ => (ev_tup (av_cons (ev_var (pv 2)) (av_cons (ev_add (e2_e (by decide) (ev_var (pv 0)) (ev_var (pv 3)))) av_nil))))) av_nil)))))
    (sv_one (sv_ret (ev_tup (av_cons (ev_mul (e2_e (by decide) ev_int (ev_var (pv 0)))) (av_cons (ev_tuple rfl hB.n_tuple (avr_late (pv 1) av_nil)) av_nil))))))))
/-! ### _law_same -/
def n__law_same : List Str := ["_law_found", "_law_due", "_law_one", "_law_other"]
theorem sc__law_same : FnScope n__law_same ["_law_found", "_law_due"] (defScope (top 25)) := ⟨rfl, rfl, rfl, by decide +kernel, rfl, by decide +kernel, by decide +kernel⟩
def s__law_same (rec : List PV → FR) : En → SR :=
  (sSeq (sIf (bVal (eIsTL (eVar 1))) (sSeq (sIf (bOr (bCmp neP (pE (eIsi "tuple" (eVar 0)) (eIsi "tuple" (eVar 1)))) (bCmp neP (pE (eIsi "list" (eVar 0)) (eIsi "list" (eVar 1))))) (sRet (eC (.bool false))) sNil)
    (sSeq (sIf (bCmp neP (pE (eCal lenV (aCons (eVar 0) aNil)) (eCal lenV (aCons (eVar 1) aNil)))) (sRet (eC (.bool false))) sNil)
    (sRet (eCal allV (aCons (eLC (.t [2, 3]) [2, 3] (iZip (aCons (eVar 0) (aCons (eVar 1) aNil))) bYes (eFun rec [] (aCons (eVar 2) (aCons (eVar 3) aNil)))) aNil))))) sNil)
    (sRet (eAnd (eCmp eqP (pE (eVar 0) (eVar 1))) (eCmp eqP (pE (eIsi "bool" (eVar 0)) (eIsi "bool" (eVar 1)))))))
def f__law_same : Nat → List PV → FR
  | 0 => fun _ => .bad
  | n + 1 => runF' .sh n__law_same.length [.s, .s] (s__law_same (f__law_same n))
theorem ok__law_same {P : Program} {w : World} {K : PySem.W.Frag} {mg : Str → Option Value} {base : Heap} {T : List (Addr × Str)} {xc : Nat → Value} (A : At K mg "_law_same" (top 25)) (hB : BN mg) : ∀ n : Nat, Def P w K mg base T xc "_law_same" (0 + n) ["_law_found", "_law_due"] [.s, .s] .sh (f__law_same n)
  | 0 => def_at0 A (fun _ _ _ _ _ _ us hl => match us, hl with | [_, _], _ => rfl)
  | n + 1 => by
    have D_rec := ok__law_same (P := P) (w := w) (base := base) (T := T) (xc := xc) A hB n
    exact def_at (k := 0 + n) A sc__law_same rfl (by decide) (fun _ _ _ _ _ _ us hl => match us, hl with | [_, _], _ => rfl) fun f cdv A outer s H E I hr =>
    (sv_cons (sv_if (tv_val (ev_isTL rfl hB.n_isinstance (ev_sr (ev_var (pv 1))) rfl hB.n_tuple rfl hB.n_list)) (sv_cons (sv_if (tv_w (wv_or (tv_cmp (ob_ne hr.units) (e2_e (by decide) (ev_isi rfl hB.n_isinstance (ev_sr (ev_var (pv 0))) rfl hB.n_tuple rfl) (ev_isi rfl hB.n_isinstance (ev_sr (ev_var (pv 1))) rfl hB.n_tuple rfl)) rfl) (wv_or1 (tv_cmp (ob_ne hr.units) (e2_e (by decide) (ev_isi rfl hB.n_isinstance (ev_sr (ev_var (pv 0))) rfl hB.n_list rfl) (ev_isi rfl hB.n_isinstance (ev_sr (ev_var (pv 1))) rfl hB.n_list rfl)) rfl)))) (sv_one (sv_ret ev_bl)) sv_nil)
    (sv_cons (sv_if (tv_cmp (ob_ne hr.units) (e2_e (by decide) (ev_len rfl hB.n_len (avr_cons (by decide) (ev_var (pv 0)) av_nil)) (ev_len rfl hB.n_len (avr_cons (by decide) (ev_var (pv 1)) av_nil))) rfl) (sv_one (sv_ret ev_bl)) sv_nil)
    (sv_one (sv_ret (ev_all rfl rfl hB.n_all (avr_cons (by decide) (ev_lc [2, 3] rfl rfl sc__law_same.nd (iv_zip rfl hB.n_zip (av_cons (ev_var (pv 0)) (av_cons (ev_var (pv 1)) av_nil))) (blkOk_by (own := [("_law_one", 2), ("_law_other", 3)]) (N := n__law_same) (sc := defScope (top 25)) (by decide +kernel)) (by decide) (nios (l := []) rfl rfl) (fun _ _ _ _ _ => (gv_t rfl (pgs_cons (pg_name (i := 2) sc__law_same.nd rfl (by first | exact .inl rfl | exact .inr rfl)) (pgs_cons (pg_name (i := 3) sc__law_same.nd rfl (by first | exact .inl rfl | exact .inr rfl)) pgs_nil)))) (fun _ _ _ _ _ => nv_nil) (fun _ _ _ _ _ => (ev_callD D_rec hr (by omega) rfl LamX.takes0 (by decide) (mv_s (ev_var (pv 2)) (mv_s (ev_var (pv 3)) mv_nil))))) av_nil)))))) sv_nil)
    (sv_one (sv_ret (ev_and (ev_cmp (ob_eq hr.units) (e2_e (by decide) (ev_var (pv 0)) (ev_var (pv 1))) rfl) (ev_one (ev_cmp (ob_eq hr.units) (e2_e (by decide) (ev_isi rfl hB.n_isinstance (ev_sr (ev_var (pv 0))) rfl hB.n_bool rfl) (ev_isi rfl hB.n_isinstance (ev_sr (ev_var (pv 1))) rfl hB.n_bool rfl)) rfl))))))
/-! ### _law_cell_at -/
def n__law_cell_at : List Str := ["_law_script", "_law_k"]
theorem sc__law_cell_at : FnScope n__law_cell_at ["_law_script", "_law_k"] (defScope (top 26)) := ⟨rfl, rfl, rfl, by decide +kernel, rfl, by decide +kernel, by decide +kernel⟩
def s__law_cell_at : En → SR :=
  (sSeq (sIf (bCmp ltP' (pE (eVar 1) (eCal lenV (aCons (eVar 0) aNil)))) (sRet (eOp idxV (pE (eVar 0) (eVar 1)))) sNil)
    (sRet (eC (.int 0))))
def f__law_cell_at : List PV → FR := runF' .sh n__law_cell_at.length [.s, .s] s__law_cell_at
theorem ok__law_cell_at {P : Program} {w : World} {K : PySem.W.Frag} {mg : Str → Option Value} {base : Heap} {T : List (Addr × Str)} {xc : Nat → Value} (A : At K mg "_law_cell_at" (top 26)) (hB : BN mg) : Def P w K mg base T xc "_law_cell_at" (1) ["_law_script", "_law_k"] [.s, .s] .sh f__law_cell_at :=
  def_at (k := 0) A sc__law_cell_at rfl (by decide) (fun _ _ _ _ _ _ us hl => match us, hl with | [_, _], _ => rfl) fun f cdv A outer s H E I hr =>
    (sv_cons (sv_if (tv_cmp ob_lt (e2_e (by decide) (ev_var (pv 1)) (ev_len rfl hB.n_len (avr_cons (by decide) (ev_var (pv 0)) av_nil))) rfl) (sv_one (sv_ret (ev_ix (e2_e (by decide) (ev_var (pv 0)) (ev_var (pv 1)))))) sv_nil)
    (sv_one (sv_ret ev_int)))
/-! ### _law_state -/
def n__law_state : List Str := ["_law_script", "_law_k", "_law_cell"]
theorem sc__law_state : FnScope n__law_state ["_law_script", "_law_k"] (defScope (top 27)) := ⟨rfl, rfl, rfl, by decide +kernel, rfl, by decide +kernel, by decide +kernel⟩
def s__law_state : En → SR :=
  (sSeq (sAsg 2 (eFun f__law_cell_at [] (aCons (eVar 0) (aCons (eVar 1) aNil))))
    (sSeq (sIf (bCmp geP (pE (eVar 2) (eOp powV (pE (eC (.int 10)) (eC (.int 18)))))) (sRet (eLst (aCons (eOp subV (pE (eVar 2) (eOp powV (pE (eC (.int 10)) (eC (.int 18)))))) (aCons (eC (.bool true)) aNil)))) sNil)
    (sRet (eLst (aCons (eOp modV (pE (eVar 2) (eC (.int 2147483647)))) (aCons (eC (.bool false)) aNil))))))
def f__law_state : List PV → FR := runF' .fr n__law_state.length [.s, .s] s__law_state
theorem ok__law_state {P : Program} {w : World} {K : PySem.W.Frag} {mg : Str → Option Value} {base : Heap} {T : List (Addr × Str)} {xc : Nat → Value} (A : At K mg "_law_state" (top 27)) (hB : BN mg) (D__law_cell_at : Def P w K mg base T xc "_law_cell_at" 1 ["_law_script", "_law_k"] [.s, .s] .sh f__law_cell_at) : Def P w K mg base T xc "_law_state" (2) ["_law_script", "_law_k"] [.s, .s] .fr f__law_state :=
  def_at (k := 1) A sc__law_state rfl (by decide) (fun _ _ _ _ _ _ us hl => match us, hl with | [_, _], _ => rfl) fun f cdv A outer s H E I hr =>
    (sv_cons (sv_asg (ev_callD D__law_cell_at hr (by omega) rfl (takes_of rfl rfl rfl rfl) (by decide) (mv_s (ev_var (pv 0)) (mv_s (ev_var (pv 1)) mv_nil))) (nio (l := []) rfl rfl) sc__law_state.nd rfl (by first | exact .inl rfl | exact .inr rfl))
    (sv_cons (sv_if (tv_cmp ob_ge (e2_e (by decide) (ev_var (pv 2)) (ev_pow (e2_e (by decide) ev_int ev_int))) rfl) (sv_one (sv_ret (ev_lst (av_cons (ev_sub (e2_e (by decide) (ev_var (pv 2)) (ev_pow (e2_e (by decide) ev_int ev_int)))) (av_cons ev_bl av_nil))))) sv_nil)
    (sv_one (sv_ret (ev_lst (av_cons (ev_mod (e2_e (by decide) (ev_var (pv 2)) ev_int)) (av_cons ev_bl av_nil)))))))
/-! ### _law_take -/
def n__law_take : List Str := ["_law_state_here", "_law_many", "_law_found", "_law_stirred"]
theorem sc__law_take : FnScope n__law_take ["_law_state_here", "_law_many"] (defScope (top 28)) := ⟨rfl, rfl, rfl, by decide +kernel, rfl, by decide +kernel, by decide +kernel⟩
def s__law_take : En → SR :=
  (sSeq (sIf (bTru (eOp idxV (pL 0 (eC (.int 1))))) (sSeq (sAsg 2 (eOp modV (pE (eOp idxV (pL 0 (eC (.int 0)))) (eVar 1))))
    (sSeq (sSub 0 (eC (.int 0)) (eOp divV (pE (eOp idxV (pL 0 (eC (.int 0)))) (eVar 1))))
    (sRet (eVar 2)))) sNil)
    (sSeq (sSub 0 (eC (.int 0)) (eOp modV (pE (eOp addV (pE (eOp mulV (pE (eOp idxV (pL 0 (eC (.int 0)))) (eC (.int 48271)))) (eC (.int 29)))) (eC (.int 2147483647)))))
    (sSeq (sAsg 3 (eOp modV (pE (eOp addV (pE (eOp addV (pE (eOp mulV (pE (eOp idxV (pL 0 (eC (.int 0)))) (eOp idxV (pL 0 (eC (.int 0)))))) (eOp mulV (pE (eC (.int 39373)) (eOp idxV (pL 0 (eC (.int 0)))))))) (eC (.int 7)))) (eC (.int 2147483629)))))
    (sSeq (sAsg 3 (eOp modV (pE (eOp addV (pE (eOp mulV (pE (eVar 3) (eVar 3))) (eOp mulV (pE (eC (.int 16807)) (eVar 3))))) (eC (.int 2147483587)))))
    (sRet (eOp modV (pE (eOp divV (pE (eVar 3) (eC (.int 8)))) (eVar 1))))))))
def f__law_take : List PV → FR := runF' .sh n__law_take.length [.o, .s] s__law_take
theorem ok__law_take {P : Program} {w : World} {K : PySem.W.Frag} {mg : Str → Option Value} {base : Heap} {T : List (Addr × Str)} {xc : Nat → Value} (A : At K mg "_law_take" (top 28)) (hB : BN mg) : Def P w K mg base T xc "_law_take" (1) ["_law_state_here", "_law_many"] [.o, .s] .sh f__law_take :=
  def_at (k := 0) A sc__law_take rfl (by decide) (fun _ _ _ _ _ _ us hl => match us, hl with | [_, _], _ => rfl) fun f cdv A outer s H E I hr =>
    (sv_cons (sv_if (tv_tru (ev_sr (ev_ix (e2_l (pv 0) ev_int)))) (sv_cons (sv_asg (ev_mod (e2_e (by decide) (ev_ix (e2_l (pv 0) ev_int)) (ev_var (pv 1)))) (nio (l := [0]) rfl rfl) sc__law_take.nd rfl (by first | exact .inl rfl | exact .inr rfl))
    (sv_cons (sv_sub (pv 0) ev_int (ev_div (e2_e (by decide) (ev_ix (e2_l (pv 0) ev_int)) (ev_var (pv 1)))))
    (sv_one (sv_ret (ev_var (pv 2)))))) sv_nil)
    (sv_cons (sv_sub (pv 0) ev_int (ev_mod (e2_e (by decide) (ev_add (e2_e (by decide) (ev_mul (e2_e (by decide) (ev_ix (e2_l (pv 0) ev_int)) ev_int)) ev_int)) ev_int)))
    (sv_cons (sv_asg (ev_mod (e2_e (by decide) (ev_add (e2_e (by decide) (ev_add (e2_e (by decide) (ev_mul (e2_e (by decide) (ev_ix (e2_l (pv 0) ev_int)) (ev_ix (e2_l (pv 0) ev_int)))) (ev_mul (e2_e (by decide) ev_int (ev_ix (e2_l (pv 0) ev_int)))))) ev_int)) ev_int)) (nio (l := [0]) rfl rfl) sc__law_take.nd rfl (by first | exact .inl rfl | exact .inr rfl))
    (sv_cons (sv_asg (ev_mod (e2_e (by decide) (ev_add (e2_e (by decide) (ev_mul (e2_e (by decide) (ev_var (pv 3)) (ev_var (pv 3)))) (ev_mul (e2_e (by decide) ev_int (ev_var (pv 3)))))) ev_int)) (nio (l := [0]) rfl rfl) sc__law_take.nd rfl (by first | exact .inl rfl | exact .inr rfl))
    (sv_one (sv_ret (ev_mod (e2_e (by decide) (ev_div (e2_e (by decide) (ev_var (pv 3)) ev_int)) (ev_var (pv 1))))))))))
/-! ### _law_refused -/
def n__law_refused : List Str := ["_law_call", "_law_error", "e", "_law_marks", "_law_k"]
theorem sc__law_refused : FnScope n__law_refused ["_law_call"] (defScope (top 29)) := ⟨rfl, rfl, rfl, by decide +kernel, rfl, by decide +kernel, by decide +kernel⟩
def s_refused : En → SR :=
  (sSeq (sAsg 3 (eLst (aCons (eIsx 1 b_NoOrder) (aCons (eIsx 1 b_NoNumber) (aCons (eIsx 1 b_NoPairs) aNil)))))
    (sSeq (sAsg 3 (eOp addL (pE (eVar 3) (eLst (aCons (eIsx 1 b_Round) (aCons (eIsx 1 b_NoThing) (aCons (eIsx 1 b_NoRow) aNil)))))))
    (sSeq (sAsg 3 (eOp addL (pE (eVar 3) (eLst (aCons (eIsx 1 b_TooMany) (aCons (eIsx 1 b_TooFew) (aCons (eIsx 1 b_NoText) aNil)))))))
    (sSeq (sAsg 3 (eOp addL (pE (eVar 3) (eLst (aCons (eIsx 1 b_NoLine) (aCons (eIsx 1 b_NoDeed) (aCons (eIsx 1 b_NoSeating) aNil)))))))
    (sSeq (sAsg 3 (eOp addL (pE (eVar 3) (eLst (aCons (eIsx 1 b_NoRing) (aCons (eIsx 1 b_NoSizes) aNil))))))
    (sSeq (sIf (bNot (bVal (eIsx 1 b_ValueError))) (sRet (eC (.none))) sNil)
    (sRet (eLC (.n 4) [4] (iR1 (aCons (eC (.int 14)) aNil)) (bTru (eOp idxV (pE (eVar 3) (eVar 4)))) (eVar 4)))))))))
theorem ok__law_refused {P : Program} {w : World} {K : PySem.W.Frag} {mg : Str → Option Value} {base : Heap} {T : List (Addr × Str)} {xc : Nat → Value} (A : At K mg "_law_refused" (top 29)) (hB : BN mg) {near : Addr} (hnear : mg "NearError" = some (.ref near)) (hx : ∀ c, okc c = true → PySem.W.exmOne K (xc c) (.ref near) = some true) (I_NoOrder : IsxD K mg xc "NoOrder" b_NoOrder) (I_NoNumber : IsxD K mg xc "NoNumber" b_NoNumber) (I_NoPairs : IsxD K mg xc "NoPairs" b_NoPairs) (I_Round : IsxD K mg xc "Round" b_Round) (I_NoThing : IsxD K mg xc "NoThing" b_NoThing) (I_NoRow : IsxD K mg xc "NoRow" b_NoRow) (I_TooMany : IsxD K mg xc "TooMany" b_TooMany) (I_TooFew : IsxD K mg xc "TooFew" b_TooFew) (I_NoText : IsxD K mg xc "NoText" b_NoText) (I_NoLine : IsxD K mg xc "NoLine" b_NoLine) (I_NoDeed : IsxD K mg xc "NoDeed" b_NoDeed) (I_NoSeating : IsxD K mg xc "NoSeating" b_NoSeating) (I_NoRing : IsxD K mg xc "NoRing" b_NoRing) (I_NoSizes : IsxD K mg xc "NoSizes" b_NoSizes) (I_ValueError : IsxD K mg xc "ValueError" b_ValueError) : RefDef P w K mg base T xc okc marks "_law_refused" "_law_call" := by
  obtain ⟨f, oc, kV, doc, pm, cdv, ct, od, an, osl, lk, hcd, kp, hm⟩ := A.ex
  refine ⟨f, defArgs (top 29), defBody (top 29), defScope (top 29), .none, kV, doc, pm, cdv, ct, oc, an, od, osl, n__law_refused, hm, kp, lk, hcd, .all (fun us hl => match us, hl with | [_], _ => rfl), sc__law_refused, rfl, .inl rfl, fun X e1 e2 e3 e4 e5 q => ?_⟩
  subst e1 e2 e3 e4 e5
  exact ref_gives (il := 1) (ie := 2) (gR := s_refused) sc__law_refused.nd (by decide) rfl rfl rfl rfl (by decide) (by decide) (by decide) (by decide) (by decide) (fun _ _ => rfl) (fun _ _ => rfl) (fun _ _ => rfl) rfl (by decide) hnear hx
    (fun s H => (sv_cons (sv_asg (ev_fs (ev_lst (av_cons (ev_isxD I_NoOrder rfl rfl rfl hB.n_isinstance (pv 1)) (av_cons (ev_isxD I_NoNumber rfl rfl rfl hB.n_isinstance (pv 1)) (av_cons (ev_isxD I_NoPairs rfl rfl rfl hB.n_isinstance (pv 1)) av_nil))))) (nio (l := []) rfl rfl) sc__law_refused.nd rfl (by first | exact .inl rfl | exact .inr rfl))
    (sv_cons (sv_asg (ev_fs (ev_addL (e2_e (by decide) (ev_var (pv 3)) (ev_lst (av_cons (ev_isxD I_Round rfl rfl rfl hB.n_isinstance (pv 1)) (av_cons (ev_isxD I_NoThing rfl rfl rfl hB.n_isinstance (pv 1)) (av_cons (ev_isxD I_NoRow rfl rfl rfl hB.n_isinstance (pv 1)) av_nil))))))) (nio (l := []) rfl rfl) sc__law_refused.nd rfl (by first | exact .inl rfl | exact .inr rfl))
    (sv_cons (sv_asg (ev_fs (ev_addL (e2_e (by decide) (ev_var (pv 3)) (ev_lst (av_cons (ev_isxD I_TooMany rfl rfl rfl hB.n_isinstance (pv 1)) (av_cons (ev_isxD I_TooFew rfl rfl rfl hB.n_isinstance (pv 1)) (av_cons (ev_isxD I_NoText rfl rfl rfl hB.n_isinstance (pv 1)) av_nil))))))) (nio (l := []) rfl rfl) sc__law_refused.nd rfl (by first | exact .inl rfl | exact .inr rfl))
    (sv_cons (sv_asg (ev_fs (ev_addL (e2_e (by decide) (ev_var (pv 3)) (ev_lst (av_cons (ev_isxD I_NoLine rfl rfl rfl hB.n_isinstance (pv 1)) (av_cons (ev_isxD I_NoDeed rfl rfl rfl hB.n_isinstance (pv 1)) (av_cons (ev_isxD I_NoSeating rfl rfl rfl hB.n_isinstance (pv 1)) av_nil))))))) (nio (l := []) rfl rfl) sc__law_refused.nd rfl (by first | exact .inl rfl | exact .inr rfl))
    (sv_cons (sv_asg (ev_fs (ev_addL (e2_e (by decide) (ev_var (pv 3)) (ev_lst (av_cons (ev_isxD I_NoRing rfl rfl rfl hB.n_isinstance (pv 1)) (av_cons (ev_isxD I_NoSizes rfl rfl rfl hB.n_isinstance (pv 1)) av_nil)))))) (nio (l := []) rfl rfl) sc__law_refused.nd rfl (by first | exact .inl rfl | exact .inr rfl))
    (sv_cons (sv_if (tv_not (tv_val (ev_isxD I_ValueError rfl rfl rfl hB.n_isinstance (pv 1)))) (sv_one (sv_ret ev_non)) sv_nil)
    (sv_one (sv_ret (ev_fs (ev_lc [4] rfl rfl sc__law_refused.nd (iv_r1 rfl hB.n_range (avr_cons (by decide) ev_int av_nil)) (blkOk_by (own := [("_law_k", 4)]) (N := n__law_refused) (sc := defScope (top 29)) (by decide +kernel)) (by decide) (nios (l := []) rfl rfl) (fun _ _ _ _ _ => (gv_n sc__law_refused.nd rfl (by first | exact .inl rfl | exact .inr rfl))) (fun _ _ _ _ _ => (nv_one (tv_tru (ev_sr (ev_ix (e2_e (by decide) (ev_var (pv 3)) (ev_var (pv 4)))))))) (fun _ _ _ _ _ => (ev_var (pv 4)))))))))))))) ⟨_, rfl⟩ (fun c h => match c, h with | 0, _ => ⟨_, rfl⟩ | n + 1, h => by (have := of_decide_eq_true (show decide (n + 1 < 1) = true from h); omega))
/-! ### law -/
def n_law : List Str := ["_law_script", "_law_many", "_law_pairs", "_law_a", "_law_b", "_law_half", "_law_low", "_law_high", "_law_k", "_law_state_here", "_law_bad", "_law_odd"]
theorem sc_law : FnScope n_law ["_law_script"] (defScope (top 30)) := ⟨rfl, rfl, rfl, by decide +kernel, rfl, by decide +kernel, by decide +kernel⟩
def s_law_b0 : En → SR :=
  (sExpr (eMut 2 gExtend (aCons (eLC (.n 4) [4] (iR1 (aCons (eVar 1) aNil)) (bAnd (bCmp eqP (pE (eOp modV (pE (eVar 3) (eC (.int 2)))) (eC (.int 0)))) (bCmp eqP (pE (eCal absV (aCons (eOp subV (pE (eVar 3) (eVar 4))) aNil)) (eC (.int 1))))) (eTup (aCons (eVar 3) (aCons (eVar 4) aNil)))) aNil)))
def s_law_b1 : En → SR :=
  (sSeq (sAsgO 2 (eLst aNil))
    (sSeq (sFor (.n 3) (iR1 (aCons (eVar 1) aNil)) s_law_b0)
    (sIf (bNot (bVal (eFun (f__law_same 12) [] (aCons (eFun f_fence [] (aCons (eVar 1) aNil)) (aCons (eTup (aCons (eVar 1) (aCons (eCal tupleV (aLate 2 aNil)) aNil))) aNil))))) (sRet (eC (.bool false))) sNil)))
def s_law_b2 : En → SR :=
  (sExpr (eMut 2 gExtend (aCons (eLC (.n 7) [7] (iR1 (aCons (eVar 5) aNil)) (bCmp neP (pE (eVar 7) (eVar 6))) (eTup (aCons (eVar 6) (aCons (eOp addV (pE (eVar 5) (eVar 7))) aNil)))) aNil)))
def s_law_b3 : En → SR :=
  (sSeq (sAsgO 2 (eLst aNil))
    (sSeq (sFor (.n 6) (iR1 (aCons (eVar 5) aNil)) s_law_b2)
    (sIf (bNot (bVal (eFun (f__law_same 12) [] (aCons (eFun f_crown [] (aCons (eVar 5) aNil)) (aCons (eTup (aCons (eOp mulV (pE (eC (.int 2)) (eVar 5))) (aCons (eCal tupleV (aLate 2 aNil)) aNil))) aNil))))) (sRet (eC (.bool false))) sNil)))
def s_law_b4 : En → SR :=
  (sSeq (sAsgO 9 (eFun f__law_state [] (aCons (eVar 0) (aCons (eVar 8) aNil))))
    (sSeq (sAsg 10 (eOp idxV (pE (eLst (aCons (eC (.int 0)) (aCons (eC (.int 7)) (aCons (eNeg (eC (.int 1))) (aCons (eC (.bool true)) (aCons (eC (.none)) (aCons (eC (.str "2")) (aCons (eTup (aCons (eC (.int 2)) aNil)) (aCons (eOp powV (pE (eC (.int 10)) (eC (.int 29)))) (aCons (eLst (aCons (eC (.int 3)) aNil)) (aCons (eC (.dict [])) aNil))))))))))) (eFun f__law_take [9] (aIo 9 (aCons (eC (.int 10)) aNil))))))
    (sSeq (sIf (bCmp neP (pE (eRef okc marks (eFun f_fence [] (aCons (eVar 10) aNil))) (eLst (aCons (eC (.int 1)) aNil)))) (sRet (eC (.bool false))) sNil)
    (sSeq (sAsg 11 (eOp idxV (pE (eLst (aCons (eC (.int 0)) (aCons (eC (.int 1)) (aCons (eC (.int 4)) (aCons (eNeg (eC (.int 2))) (aCons (eC (.bool true)) (aCons (eC (.none)) (aCons (eC (.str "2")) (aCons (eTup (aCons (eC (.int 2)) aNil)) (aCons (eOp powV (pE (eC (.int 10)) (eC (.int 29)))) (aCons (eLst (aCons (eC (.int 3)) aNil)) (aCons (eC (.dict [])) aNil)))))))))))) (eFun f__law_take [9] (aIo 9 (aCons (eC (.int 11)) aNil))))))
    (sIf (bCmp neP (pE (eRef okc marks (eFun f_crown [] (aCons (eVar 11) aNil))) (eLst (aCons (eC (.int 1)) aNil)))) (sRet (eC (.bool false))) sNil)))))
def s_law : En → SR :=
  (sSeq (sFor (.n 1) (iR2 (aCons (eC (.int 1)) (aCons (eC (.int 7)) aNil))) s_law_b1)
    (sSeq (sFor (.n 5) (iSeq (eLst (aCons (eC (.int 2)) (aCons (eC (.int 3)) aNil)))) s_law_b3)
    (sSeq (sFor (.n 8) (iR1 (aCons (eCal max2V (aCons (eC (.int 1)) (aCons (eCal min2V (aCons (eCal lenV (aCons (eVar 0) aNil)) (aCons (eC (.int 10)) aNil))) aNil))) aNil)) s_law_b4)
    (sRet (eC (.bool true))))))
def f_law : List PV → FR := runF' .sh n_law.length [.s] s_law
theorem ok_law {P : Program} {w : World} {K : PySem.W.Frag} {mg : Str → Option Value} {base : Heap} {T : List (Addr × Str)} {xc : Nat → Value} {c Pt : Addr} (A : AtC K mg "law" (top 30) c) (TB : LamX.TabB base mg c Pt) (hmT : (Pt, lamQ "law") ∈ T) (hu0 : ∀ p ∈ T, p.1 = Pt → p.2 = lamQ "law") (hB : BN mg) (D_fence : Def P w K mg base T xc "fence" 3 ["many"] [.s] .sh f_fence) (D_crown : Def P w K mg base T xc "crown" 2 ["half"] [.s] .sh f_crown) (D__law_same : Def P w K mg base T xc "_law_same" 12 ["_law_found", "_law_due"] [.s, .s] .sh (f__law_same 12)) (D__law_state : Def P w K mg base T xc "_law_state" 2 ["_law_script", "_law_k"] [.s, .s] .fr f__law_state) (D__law_take : Def P w K mg base T xc "_law_take" 1 ["_law_state_here", "_law_many"] [.o, .s] .sh f__law_take) (D__law_refused : RefDef P w K mg base T xc okc marks "_law_refused" "_law_call") : Def P w K mg base T xc "law" (13) ["_law_script"] [.s] .sh f_law :=
  def_atC (k := 12) A sc_law rfl (by decide) (fun _ _ _ _ _ _ us hl => match us, hl with | [_], _ => rfl) fun f A outer s H E I hr =>
    (sv_cons (sv_for (passes_of rfl) rfl (iv_r2 rfl hB.n_range (avr_cons (by decide) ev_int (avr_cons (by decide) ev_int av_nil))) (gv_n sc_law.nd rfl (by first | exact .inl rfl | exact .inr rfl)) (nios (l := []) rfl rfl) (sv_cons (sv_asgO (ev_lst av_nil) (nio (l := []) rfl rfl) sc_law.nd rfl (by first | exact .inl rfl | exact .inr rfl))
    (sv_cons (sv_for (passes_of rfl) rfl (iv_r1 rfl hB.n_range (avr_cons (by decide) (ev_var (pv 1)) av_nil)) (gv_n sc_law.nd rfl (by first | exact .inl rfl | exact .inr rfl)) (nios (l := []) rfl rfl) (sv_one (sv_expr (ev_mut PySem.F.slot_list_extend rfl mt_extend an_extend (pv 2) (avr_cons (by decide) (ev_lc [4] rfl rfl sc_law.nd (iv_r1 rfl hB.n_range (avr_cons (by decide) (ev_var (pv 1)) av_nil)) (blkOk_by (own := [("_law_b", 4)]) (N := n_law) (sc := defScope (top 30)) (by decide +kernel)) (by decide) (nios (l := []) rfl rfl) (fun _ _ _ _ _ => (gv_n sc_law.nd rfl (by first | exact .inl rfl | exact .inr rfl))) (fun _ _ _ _ _ => (nv_one (tv_w (wv_and (tv_cmp (ob_eq hr.units) (e2_e (by decide) (ev_mod (e2_e (by decide) (ev_var (pv 3)) ev_int)) ev_int) rfl) (wv_and1 (tv_cmp (ob_eq hr.units) (e2_e (by decide) (ev_abs rfl hB.n_abs (avr_cons (by decide) (ev_sub (e2_e (by decide) (ev_var (pv 3)) (ev_var (pv 4)))) av_nil)) ev_int) rfl)))))) (fun _ _ _ _ _ => (ev_tup (av_cons (ev_var (pv 3)) (av_cons (ev_var (pv 4)) av_nil))))) av_nil)))))
    (sv_one (sv_if (tv_not (tv_val (ev_callD D__law_same hr (by omega) rfl (takes_of rfl rfl rfl rfl) (by decide) (mv_s (ev_callD D_fence hr (by omega) rfl (takes_of rfl rfl rfl rfl) (by decide) (mv_s (ev_var (pv 1)) mv_nil)) (mv_s (ev_tup (av_cons (ev_var (pv 1)) (av_cons (ev_tuple rfl hB.n_tuple (avr_late (pv 2) av_nil)) av_nil))) mv_nil))))) (sv_one (sv_ret ev_bl)) sv_nil)))))
    (sv_cons (sv_for (passes_of rfl) rfl (iv_seq (ev_fs (ev_lst (av_cons ev_int (av_cons ev_int av_nil))))) (gv_n sc_law.nd rfl (by first | exact .inl rfl | exact .inr rfl)) (nios (l := []) rfl rfl) (sv_cons (sv_asgO (ev_lst av_nil) (nio (l := []) rfl rfl) sc_law.nd rfl (by first | exact .inl rfl | exact .inr rfl))
    (sv_cons (sv_for (passes_of rfl) rfl (iv_r1 rfl hB.n_range (avr_cons (by decide) (ev_var (pv 5)) av_nil)) (gv_n sc_law.nd rfl (by first | exact .inl rfl | exact .inr rfl)) (nios (l := []) rfl rfl) (sv_one (sv_expr (ev_mut PySem.F.slot_list_extend rfl mt_extend an_extend (pv 2) (avr_cons (by decide) (ev_lc [7] rfl rfl sc_law.nd (iv_r1 rfl hB.n_range (avr_cons (by decide) (ev_var (pv 5)) av_nil)) (blkOk_by (own := [("_law_high", 7)]) (N := n_law) (sc := defScope (top 30)) (by decide +kernel)) (by decide) (nios (l := []) rfl rfl) (fun _ _ _ _ _ => (gv_n sc_law.nd rfl (by first | exact .inl rfl | exact .inr rfl))) (fun _ _ _ _ _ => (nv_one (tv_cmp (ob_ne hr.units) (e2_e (by decide) (ev_var (pv 7)) (ev_var (pv 6))) rfl))) (fun _ _ _ _ _ => (ev_tup (av_cons (ev_var (pv 6)) (av_cons (ev_add (e2_e (by decide) (ev_var (pv 5)) (ev_var (pv 7)))) av_nil))))) av_nil)))))
    (sv_one (sv_if (tv_not (tv_val (ev_callD D__law_same hr (by omega) rfl (takes_of rfl rfl rfl rfl) (by decide) (mv_s (ev_callD D_crown hr (by omega) rfl (takes_of rfl rfl rfl rfl) (by decide) (mv_s (ev_var (pv 5)) mv_nil)) (mv_s (ev_tup (av_cons (ev_mul (e2_e (by decide) ev_int (ev_var (pv 5)))) (av_cons (ev_tuple rfl hB.n_tuple (avr_late (pv 2) av_nil)) av_nil))) mv_nil))))) (sv_one (sv_ret ev_bl)) sv_nil)))))
    (sv_cons (sv_for (passes_of rfl) rfl (iv_r1 rfl hB.n_range (avr_cons (by decide) (ev_max2 rfl rfl hB.n_max (avr_cons (by decide) ev_int (avr_cons (by decide) (ev_min2 rfl rfl hB.n_min (avr_cons (by decide) (ev_len rfl hB.n_len (avr_cons (by decide) (ev_var (pv 0)) av_nil)) (avr_cons (by decide) ev_int av_nil))) av_nil))) av_nil)) (gv_n sc_law.nd rfl (by first | exact .inl rfl | exact .inr rfl)) (nios (l := []) rfl rfl) (sv_cons (sv_asgO (ev_callD D__law_state hr (by omega) rfl (takes_of rfl rfl rfl rfl) (by decide) (mv_s (ev_var (pv 0)) (mv_s (ev_var (pv 8)) mv_nil))) (nio (l := []) rfl rfl) sc_law.nd rfl (by first | exact .inl rfl | exact .inr rfl))
    (sv_cons (sv_asg (ev_ix (e2_e (by decide) (ev_lst (av_cons ev_int (av_cons ev_int (av_cons (ev_neg ev_int) (av_cons ev_bl (av_cons ev_non (av_cons ev_str (av_cons (ev_tup (av_cons ev_int av_nil)) (av_cons (ev_pow (e2_e (by decide) ev_int ev_int)) (av_cons (ev_fs (ev_lst (av_cons ev_int av_nil))) (av_cons ev_dict0 av_nil))))))))))) (ev_callD D__law_take hr (by omega) rfl (takes_of rfl rfl rfl rfl) (by decide) (mv_o (pv 9) (mv_s ev_int mv_nil))))) (nio (l := []) rfl rfl) sc_law.nd rfl (by first | exact .inl rfl | exact .inr rfl))
    (sv_cons (sv_if (tv_cmp (ob_ne hr.units) (e2_e (by decide) (ev_ref D__law_refused rfl TB rfl hmT hu0 hr (k := 10) (by omega) (LamX.lamS_by rfl) rfl (fun _ _ _ _ _ => rfl) (fun A outer s H E f c' hr => (ev_callD D_fence hr (by omega) rfl (takes_of rfl rfl rfl rfl) (by decide) (mv_s (ev_var (pv 10)) mv_nil)))) (ev_lst (av_cons ev_int av_nil))) rfl) (sv_one (sv_ret ev_bl)) sv_nil)
    (sv_cons (sv_asg (ev_ix (e2_e (by decide) (ev_lst (av_cons ev_int (av_cons ev_int (av_cons ev_int (av_cons (ev_neg ev_int) (av_cons ev_bl (av_cons ev_non (av_cons ev_str (av_cons (ev_tup (av_cons ev_int av_nil)) (av_cons (ev_pow (e2_e (by decide) ev_int ev_int)) (av_cons (ev_fs (ev_lst (av_cons ev_int av_nil))) (av_cons ev_dict0 av_nil)))))))))))) (ev_callD D__law_take hr (by omega) rfl (takes_of rfl rfl rfl rfl) (by decide) (mv_o (pv 9) (mv_s ev_int mv_nil))))) (nio (l := []) rfl rfl) sc_law.nd rfl (by first | exact .inl rfl | exact .inr rfl))
    (sv_one (sv_if (tv_cmp (ob_ne hr.units) (e2_e (by decide) (ev_ref D__law_refused rfl TB rfl hmT hu0 hr (k := 10) (by omega) (LamX.lamS_by rfl) rfl (fun _ _ _ _ _ => rfl) (fun A outer s H E f c' hr => (ev_callD D_crown hr (by omega) rfl (takes_of rfl rfl rfl rfl) (by decide) (mv_s (ev_var (pv 11)) mv_nil)))) (ev_lst (av_cons ev_int av_nil))) rfl) (sv_one (sv_ret ev_bl)) sv_nil)))))))
    (sv_one (sv_ret ev_bl)))))
end K73


/-! part P73 -/
namespace K73
open Fx PySem PySem.W
theorem take_true (a : Int) (m : Int) (h0 : 0 < m) (h1 : m < 18446744073709551616) : f__law_take [.list [.int a, .bool true], .int m] = .ret (.int (a % m)) [.list [.int (a / m), .bool true]] := by
  simp [f__law_take, s__law_take, runF', startE, n__law_take, L2.atI, L2.ixN, h0, h1, List.replicate]
def stir1 (a : Int) : Int := (a * 48271 + 29) % 2147483647
def stir2 (s : Int) : Int := (s * s + 39373 * s + 7) % 2147483629
def stir3 (s : Int) : Int := (s * s + 16807 * s) % 2147483587
theorem take_false (a : Int) (m : Int) (h0 : 0 < m) (h1 : m < 18446744073709551616) : f__law_take [.list [.int a, .bool false], .int m] = .ret (.int (stir3 (stir2 (stir1 a)) / 8 % m)) [.list [.int (stir1 a), .bool false]] := by
  have a1 : -18446744073709551616 < stir1 a ∧ stir1 a < 18446744073709551616 := by unfold stir1; omega
  have a2 : -18446744073709551616 < stir2 (stir1 a) ∧ stir2 (stir1 a) < 18446744073709551616 := by unfold stir2; omega
  have e1 : (a * 48271 + 29) % 2147483647 = stir1 a := rfl
  have e2 : ∀ s : Int, (s * s + 39373 * s + 7) % 2147483629 = stir2 s := fun _ => rfl
  have e3 : ∀ s : Int, (s * s + 16807 * s) % 2147483587 = stir3 s := fun _ => rfl
  simp [f__law_take, s__law_take, runF', startE, n__law_take, L2.atI, L2.ixN, h0, h1, List.replicate, e1, e2, e3, a1, a2]
theorem take_spec (a : Int) (b : Bool) (m : Int) (h0 : 0 < m) (h1 : m < 18446744073709551616) : ∃ r a' : Int, f__law_take [.list [.int a, .bool b], .int m] = .ret (.int r) [.list [.int a', .bool b]] ∧ 0 ≤ r ∧ r < m := by
  cases b
  · exact ⟨_, _, take_false a m h0 h1, Int.emod_nonneg _ (by omega), Int.emod_lt_of_pos _ h0⟩
  · exact ⟨_, _, take_true a m h0 h1, Int.emod_nonneg _ (by omega), Int.emod_lt_of_pos _ h0⟩
theorem cell_spec (ns : List Int) (k : Nat) : ∃ c : Int, f__law_cell_at [scr ns, .int k] = .ret (.int c) [] := by
  by_cases h : k < ns.length
  · refine ⟨ns[k], ?_⟩
    simp [f__law_cell_at, s__law_cell_at, runF', startE, n__law_cell_at, L2.atI, L2.ixN, scr, h, List.replicate]
  · refine ⟨0, ?_⟩
    simp [f__law_cell_at, s__law_cell_at, runF', startE, n__law_cell_at, L2.atI, L2.ixN, scr, h, List.replicate]
theorem state_spec (ns : List Int) (k : Nat) : ∃ (a : Int) (b : Bool), f__law_state [scr ns, .int k] = .ret (.list [.int a, .bool b]) [] := by
  obtain ⟨c, hc⟩ := cell_spec ns k
  by_cases h : 1000000000000000000 ≤ c
  · refine ⟨c - 1000000000000000000, true, ?_⟩
    simp [f__law_state, s__law_state, runF', startE, n__law_state, hc, h, List.replicate]
  · refine ⟨c % 2147483647, false, ?_⟩
    simp [f__law_state, s__law_state, runF', startE, n__law_state, hc, h, List.replicate]
theorem seq_nx {g h : En → SR} {ρ ρ1 : En} (e : g ρ = .nx ρ1) : sSeq g h ρ = h ρ1 := by simp [e]
theorem seq_assoc {g h k : En → SR} {ρ : En} : sSeq g (sSeq h k) ρ = sSeq (sSeq g h) k ρ := by
  simp only [sSeq]
  cases g ρ <;> rfl
def seen : SR → Option (Option Sv × Nat) | .nx (x :: xs) => some (x, xs.length) | _ => none
theorem seen_nx {r : SR} {x : Option Sv} {n : Nat} (h : seen r = some (x, n)) : ∃ xs, r = .nx (x :: xs) ∧ xs.length = n := by
  unfold seen at h
  split at h
  · cases h; exact ⟨_, rfl, rfl⟩
  · cases h
theorem forL_inv {tg : Tg} {g : En → SR} (Inv : En → Prop) : ∀ {xs : List PV} {ρ : En}, Inv ρ → (∀ x ∈ xs, ∀ ρ, Inv ρ → ∃ ρ1 ρ2, tg.put x ρ = some ρ1 ∧ g ρ1 = .nx ρ2 ∧ Inv ρ2) → ∃ ρ', forL tg g xs ρ = .nx ρ' ∧ Inv ρ'
  | [], ρ, h, _ => ⟨ρ, by simp [forL], h⟩
  | x :: xs, ρ, h, b => by
    obtain ⟨ρ1, ρ2, e1, e2, i2⟩ := b x List.mem_cons_self ρ h
    obtain ⟨ρ', e3, i3⟩ := forL_inv Inv i2 fun y hy => b y (List.mem_cons_of_mem _ hy)
    exact ⟨ρ', by unfold forL; rw [e1]; simp only [e2, e3], i3⟩
/-- a list of 11 -/
theorem eleven {α : Type} {l : List α} (h : l.length = 11) : ∃ a b c d e f g h i j k, l = [a, b, c, d, e, f, g, h, i, j, k] := by
  match l, h with
  | [a, b, c, d, e, f, g, h, i, j, k], _ => exact ⟨_, _, _, _, _, _, _, _, _, _, _, rfl⟩
def bad0 : List PV := [.int 0, .int 7, .int (-1), .bool true, .none, .str "2", .tuple [.int 2], .int 100000000000000000000000000000, .list [.int 3], .dict []]
def odd0 : List PV := [.int 0, .int 1, .int 4, .int (-2), .bool true, .none, .str "2", .tuple [.int 2], .int 100000000000000000000000000000, .list [.int 3], .dict []]
section
variable (S : PV) (x1 x2 x3 x4 x5 x6 x7 x8 x9 x10 x11 : Option Sv)
def env : En := [some (.s S), x1, x2, x3, x4, x5, x6, x7, x8, x9, x10, x11]
end
def g1 : En → SR := sIf (bCmp neP (pE (eRef okc marks (eFun f_fence [] (aCons (eVar 10) aNil))) (eLst (aCons (eC (.int 1)) aNil)))) (sRet (eC (.bool false))) sNil
def g2 : En → SR := sIf (bCmp neP (pE (eRef okc marks (eFun f_crown [] (aCons (eVar 11) aNil))) (eLst (aCons (eC (.int 1)) aNil)))) (sRet (eC (.bool false))) sNil
theorem g1_ok (S : PV) (x1 x2 x3 x4 x5 x6 x7 x8 x9 x11 : Option Sv) : ∀ v ∈ bad0, g1 (env S x1 x2 x3 x4 x5 x6 x7 x8 x9 (some (.s v)) x11) = .nx (env S x1 x2 x3 x4 x5 x6 x7 x8 x9 (some (.s v)) x11) := by
  intro v hv
  simp only [bad0, List.mem_cons, List.not_mem_nil, or_false] at hv
  rcases hv with rfl | rfl | rfl | rfl | rfl | rfl | rfl | rfl | rfl | rfl <;> kernel_rfl
theorem g2_ok (S : PV) (x1 x2 x3 x4 x5 x6 x7 x8 x9 x10 : Option Sv) : ∀ v ∈ odd0, g2 (env S x1 x2 x3 x4 x5 x6 x7 x8 x9 x10 (some (.s v))) = .nx (env S x1 x2 x3 x4 x5 x6 x7 x8 x9 x10 (some (.s v))) := by
  intro v hv
  simp only [odd0, List.mem_cons, List.not_mem_nil, or_false] at hv
  rcases hv with rfl | rfl | rfl | rfl | rfl | rfl | rfl | rfl | rfl | rfl | rfl <;> kernel_rfl
def d1 : En → SR := sAsg 10 (eOp idxV (pE (eLst (aCons (eC (.int 0)) (aCons (eC (.int 7)) (aCons (eNeg (eC (.int 1))) (aCons (eC (.bool true)) (aCons (eC (.none)) (aCons (eC (.str "2")) (aCons (eTup (aCons (eC (.int 2)) aNil)) (aCons (eOp powV (pE (eC (.int 10)) (eC (.int 29)))) (aCons (eLst (aCons (eC (.int 3)) aNil)) (aCons (eC (.dict [])) aNil))))))))))) (eFun f__law_take [9] (aIo 9 (aCons (eC (.int 10)) aNil)))))
def d2 : En → SR := sAsg 11 (eOp idxV (pE (eLst (aCons (eC (.int 0)) (aCons (eC (.int 1)) (aCons (eC (.int 4)) (aCons (eNeg (eC (.int 2))) (aCons (eC (.bool true)) (aCons (eC (.none)) (aCons (eC (.str "2")) (aCons (eTup (aCons (eC (.int 2)) aNil)) (aCons (eOp powV (pE (eC (.int 10)) (eC (.int 29)))) (aCons (eLst (aCons (eC (.int 3)) aNil)) (aCons (eC (.dict [])) aNil)))))))))))) (eFun f__law_take [9] (aIo 9 (aCons (eC (.int 11)) aNil)))))
theorem atI_mem {l : List PV} {r : Int} (h0 : 0 ≤ r) (h : r < l.length) : ∃ v, L2.atI l r = some v ∧ v ∈ l := by
  unfold L2.atI L2.ixN
  rw [if_pos h0, if_pos h]
  have q : r.toNat < l.length := by omega
  exact ⟨l[r.toNat], by simp [List.getElem?_eq_getElem q], List.getElem_mem q⟩
theorem d1_ok (S : PV) (x1 x2 x3 x4 x5 x6 x7 x8 x10 x11 : Option Sv) (a : Int) (b : Bool) : ∃ a' v, v ∈ bad0 ∧ d1 (env S x1 x2 x3 x4 x5 x6 x7 x8 (some (.o (.list [.int a, .bool b]))) x10 x11) = .nx (env S x1 x2 x3 x4 x5 x6 x7 x8 (some (.o (.list [.int a', .bool b]))) (some (.s v)) x11) := by
  obtain ⟨r, a', e, h0, h1⟩ := take_spec a b 10 (by omega) (by omega)
  obtain ⟨v, hv, hm⟩ := atI_mem (l := bad0) h0 h1
  refine ⟨a', v, hm, ?_⟩
  simp only [bad0] at hv
  simp [d1, env, e, hv]
theorem d2_ok (S : PV) (x1 x2 x3 x4 x5 x6 x7 x8 x10 x11 : Option Sv) (a : Int) (b : Bool) : ∃ a' v, v ∈ odd0 ∧ d2 (env S x1 x2 x3 x4 x5 x6 x7 x8 (some (.o (.list [.int a, .bool b]))) x10 x11) = .nx (env S x1 x2 x3 x4 x5 x6 x7 x8 (some (.o (.list [.int a', .bool b]))) x10 (some (.s v))) := by
  obtain ⟨r, a', e, h0, h1⟩ := take_spec a b 11 (by omega) (by omega)
  obtain ⟨v, hv, hm⟩ := atI_mem (l := odd0) h0 h1
  refine ⟨a', v, hm, ?_⟩
  simp only [odd0] at hv
  simp [d2, env, e, hv]
theorem b4_eq : s_law_b4 = sSeq (sAsgO 9 (eFun f__law_state [] (aCons (eVar 0) (aCons (eVar 8) aNil)))) (sSeq d1 (sSeq g1 (sSeq d2 g2))) := rfl
def Inv (ns : List Int) (ρ : En) : Prop := ∃ xs, ρ = some (.s (scr ns)) :: xs ∧ xs.length = 11
theorem b4_ok (ns : List Int) (k : Nat) (ρ : En) (h : Inv ns ρ) : ∃ ρ1 ρ2, Tg.put (.n 8) (.int (k : Nat)) ρ = some ρ1 ∧ s_law_b4 ρ1 = .nx ρ2 ∧ Inv ns ρ2 := by
  obtain ⟨xs, rfl, hl⟩ := h
  obtain ⟨x1, x2, x3, x4, x5, x6, x7, x8, x9, x10, x11, rfl⟩ := eleven hl
  obtain ⟨a, b, hs⟩ := state_spec ns k
  obtain ⟨a1, v1, m1, e1⟩ := d1_ok (scr ns) x1 x2 x3 x4 x5 x6 x7 (some (.s (.int k))) x10 x11 a b
  obtain ⟨a2, v2, m2, e2⟩ := d2_ok (scr ns) x1 x2 x3 x4 x5 x6 x7 (some (.s (.int k))) (some (.s v1)) x11 a1 b
  refine ⟨_, env (scr ns) x1 x2 x3 x4 x5 x6 x7 (some (.s (.int k))) (some (.o (.list [.int a2, .bool b]))) (some (.s v1)) (some (.s v2)), rfl, ?_, _, rfl, rfl⟩
  rw [b4_eq]
  refine (seq_nx (ρ1 := env (scr ns) x1 x2 x3 x4 x5 x6 x7 (some (.s (.int k))) (some (.o (.list [.int a, .bool b]))) x10 x11) (by simp [hs, env])).trans ?_
  refine (seq_nx e1).trans ((seq_nx (g1_ok _ _ _ _ _ _ _ _ _ _ _ v1 m1)).trans ((seq_nx e2).trans (g2_ok _ _ _ _ _ _ _ _ _ _ _ v2 m2)))
theorem upTo_nat {n : Nat} {x : PV} (h : x ∈ Fx.upTo 0 n) : ∃ k : Nat, x = .int (k : Nat) := by
  unfold Fx.upTo at h
  obtain ⟨k, _, rfl⟩ := List.mem_map.mp h
  exact ⟨k, by simp⟩
theorem plain (ns : List Int) (_ : ns.length ≤ 63) (_ : ∀ z ∈ ns, PySem.Builtin.Int.intBits z ≤ 1048576) : f_law [scr ns] = .ret (.bool true) [] := by
  have A : seen (sSeq (sFor (.n 1) (iR2 (aCons (eC (.int 1)) (aCons (eC (.int 7)) aNil))) s_law_b1) (sFor (.n 5) (iSeq (eLst (aCons (eC (.int 2)) (aCons (eC (.int 3)) aNil)))) s_law_b3) (startE n_law.length [.s] [scr ns])) = some (some (.s (scr ns)), 11) := by
    generalize scr ns = S
    kernel_rfl
  obtain ⟨xs, eA, lA⟩ := seen_nx A
  obtain ⟨j, hj1, hj2, it⟩ : ∃ j : Int, -1000000000 ≤ j ∧ j ≤ 1000000000 ∧ ∀ xs, iR1 (aCons (eCal max2V (aCons (eC (.int 1)) (aCons (eCal min2V (aCons (eCal lenV (aCons (eVar 0) aNil)) (aCons (eC (.int 10)) aNil))) aNil))) aNil) (some (.s (scr ns)) :: xs) = .ok (Fx.upTo 0 j.toNat) (some (.s (scr ns)) :: xs) := by
    refine ⟨if (if (10 : Int) < ns.length then 10 else (ns.length : Int)) > 1 then (if (10 : Int) < ns.length then 10 else (ns.length : Int)) else 1, ?_, ?_, fun xs => ?_⟩
    · split <;> split <;> omega
    · split <;> split <;> omega
    · by_cases h1 : (10 : Int) < ns.length
      · have h2 : 10 < ns.length := by omega
        simp [scr, h1, h2]
      · have h2 : ¬ 10 < ns.length := by omega
        by_cases h3 : (1 : Int) < ns.length
        · have h4 : 1 < ns.length := by omega
          have h5 : (-1000000000 : Int) ≤ ns.length := by omega
          have h6 : (ns.length : Int) ≤ 1000000000 := by omega
          simp [scr, h1, h2, h3, h4, h5, h6]
        · have h4 : ¬ 1 < ns.length := by omega
          simp [scr, h1, h2, h3, h4]
  obtain ⟨ρ', eB, i⟩ := forL_inv (tg := .n 8) (g := s_law_b4) (Inv ns) (xs := Fx.upTo 0 j.toNat) ⟨xs, rfl, lA⟩ fun x hx ρ i => by
    obtain ⟨k, rfl⟩ := upTo_nat hx
    exact b4_ok ns k ρ i
  have eC : sFor (.n 8) (iR1 (aCons (eCal max2V (aCons (eC (.int 1)) (aCons (eCal min2V (aCons (eCal lenV (aCons (eVar 0) aNil)) (aCons (eC (.int 10)) aNil))) aNil))) aNil)) s_law_b4 (some (.s (scr ns)) :: xs) = .nx ρ' := by
    unfold sFor
    rw [it xs]
    exact eB
  have eD : s_law (startE n_law.length [.s] [scr ns]) = .ret (.bool true) ρ' := by
    show sSeq _ (sSeq _ (sSeq _ _)) _ = _
    rw [seq_assoc, seq_nx eA, seq_nx eC]
    rfl
  unfold f_law runF'
  rw [eD]
  rfl
end K73

/-! part T73 -/
namespace K73
open PySem PySem.Spec PyProof.Rows L2 Fx
theorem facts {l : PySem.W.OpenLaw} {w : World} {K : PySem.W.Frag} {h : Heap} {mg : Str → Option Value} {fa : Addr} (X : K.In h) (G : h.Ns mainGlobals mg) (hfa : mg "law" = some (.ref fa)) (tb30 : ∀ c Pt, PySem.W.tabIn K "law" = some (c, Pt) → PySem.W.CodeHd h c Pt ∧ h.get? Pt = some (PySem.W.tabObj #[]))
    {f18 : Addr} {oc18 kV18 dc18 pm18 ct18 : Value} {od18 an18 : Option Addr} {sl18 : Array (Option Value)} {cd18 : Value}
    {f19 : Addr} {oc19 kV19 dc19 pm19 ct19 : Value} {od19 an19 : Option Addr} {sl19 : Array (Option Value)} {cd19 : Value}
    {f22 : Addr} {oc22 kV22 dc22 pm22 ct22 : Value} {od22 an22 : Option Addr} {sl22 : Array (Option Value)} {cd22 : Value}
    {f23 : Addr} {oc23 kV23 dc23 pm23 ct23 : Value} {od23 an23 : Option Addr} {sl23 : Array (Option Value)} {cd23 : Value}
    {f25 : Addr} {oc25 kV25 dc25 pm25 ct25 : Value} {od25 an25 : Option Addr} {sl25 : Array (Option Value)} {cd25 : Value}
    {f26 : Addr} {oc26 kV26 dc26 pm26 ct26 : Value} {od26 an26 : Option Addr} {sl26 : Array (Option Value)} {cd26 : Value}
    {f27 : Addr} {oc27 kV27 dc27 pm27 ct27 : Value} {od27 an27 : Option Addr} {sl27 : Array (Option Value)} {cd27 : Value}
    {f28 : Addr} {oc28 kV28 dc28 pm28 ct28 : Value} {od28 an28 : Option Addr} {sl28 : Array (Option Value)} {cd28 : Value}
    {f29 : Addr} {oc29 kV29 dc29 pm29 ct29 : Value} {od29 an29 : Option Addr} {sl29 : Array (Option Value)} {cd29 : Value}
    {f30 : Addr} {oc30 kV30 dc30 pm30 ct30 : Value} {od30 an30 : Option Addr} {sl30 : Array (Option Value)} {cd30 Pt30 : Addr}
    {te30 : Value} {td30 : Option Addr} {tv30 : Array Value} {ts30 : Array (Option Value)}
    {gu_MOST : Value}
    {ga_HALVES : Addr} {gi_HALVES : Array Value} {gn_HALVES : Nat} {gs_HALVES : Array (Option Value)}
    {D_NoNumber : Addr}
    {near : Addr}
    {D_NoOrder : Addr}
    {D_NoPairs : Addr}
    {D_Round : Addr}
    {D_NoThing : Addr}
    {D_NoRow : Addr}
    {D_TooMany : Addr}
    {D_TooFew : Addr}
    {D_NoText : Addr}
    {D_NoLine : Addr}
    {D_NoDeed : Addr}
    {D_NoSeating : Addr}
    {D_NoRing : Addr}
    {D_NoSizes : Addr}
    (a18 : PySem.W.nsIn K mainGlobals "is_whole" = some (some (.ref f18)))
    (l18 : K.lookup f18 = some ⟨oc18, od18, .func (PySem.W.fnOf "is_whole" "is_whole" (defArgs (top 18)) (defBody (top 18)) (defScope (top 18)) .none kV18 dc18 pm18 an18 cd18 ct18), sl18⟩)
    (c18 : PySem.W.codeIn K cd18 "is_whole" = true)
    (k18 : PySem.W.keepIn K (.ref f18) = true)
    (a19 : PySem.W.nsIn K mainGlobals "is_number" = some (some (.ref f19)))
    (l19 : K.lookup f19 = some ⟨oc19, od19, .func (PySem.W.fnOf "is_number" "is_number" (defArgs (top 19)) (defBody (top 19)) (defScope (top 19)) .none kV19 dc19 pm19 an19 cd19 ct19), sl19⟩)
    (c19 : PySem.W.codeIn K cd19 "is_number" = true)
    (k19 : PySem.W.keepIn K (.ref f19) = true)
    (a22 : PySem.W.nsIn K mainGlobals "fence" = some (some (.ref f22)))
    (l22 : K.lookup f22 = some ⟨oc22, od22, .func (PySem.W.fnOf "fence" "fence" (defArgs (top 22)) (defBody (top 22)) (defScope (top 22)) .none kV22 dc22 pm22 an22 cd22 ct22), sl22⟩)
    (c22 : PySem.W.codeIn K cd22 "fence" = true)
    (k22 : PySem.W.keepIn K (.ref f22) = true)
    (a23 : PySem.W.nsIn K mainGlobals "crown" = some (some (.ref f23)))
    (l23 : K.lookup f23 = some ⟨oc23, od23, .func (PySem.W.fnOf "crown" "crown" (defArgs (top 23)) (defBody (top 23)) (defScope (top 23)) .none kV23 dc23 pm23 an23 cd23 ct23), sl23⟩)
    (c23 : PySem.W.codeIn K cd23 "crown" = true)
    (k23 : PySem.W.keepIn K (.ref f23) = true)
    (a25 : PySem.W.nsIn K mainGlobals "_law_same" = some (some (.ref f25)))
    (l25 : K.lookup f25 = some ⟨oc25, od25, .func (PySem.W.fnOf "_law_same" "_law_same" (defArgs (top 25)) (defBody (top 25)) (defScope (top 25)) .none kV25 dc25 pm25 an25 cd25 ct25), sl25⟩)
    (c25 : PySem.W.codeIn K cd25 "_law_same" = true)
    (k25 : PySem.W.keepIn K (.ref f25) = true)
    (a26 : PySem.W.nsIn K mainGlobals "_law_cell_at" = some (some (.ref f26)))
    (l26 : K.lookup f26 = some ⟨oc26, od26, .func (PySem.W.fnOf "_law_cell_at" "_law_cell_at" (defArgs (top 26)) (defBody (top 26)) (defScope (top 26)) .none kV26 dc26 pm26 an26 cd26 ct26), sl26⟩)
    (c26 : PySem.W.codeIn K cd26 "_law_cell_at" = true)
    (k26 : PySem.W.keepIn K (.ref f26) = true)
    (a27 : PySem.W.nsIn K mainGlobals "_law_state" = some (some (.ref f27)))
    (l27 : K.lookup f27 = some ⟨oc27, od27, .func (PySem.W.fnOf "_law_state" "_law_state" (defArgs (top 27)) (defBody (top 27)) (defScope (top 27)) .none kV27 dc27 pm27 an27 cd27 ct27), sl27⟩)
    (c27 : PySem.W.codeIn K cd27 "_law_state" = true)
    (k27 : PySem.W.keepIn K (.ref f27) = true)
    (a28 : PySem.W.nsIn K mainGlobals "_law_take" = some (some (.ref f28)))
    (l28 : K.lookup f28 = some ⟨oc28, od28, .func (PySem.W.fnOf "_law_take" "_law_take" (defArgs (top 28)) (defBody (top 28)) (defScope (top 28)) .none kV28 dc28 pm28 an28 cd28 ct28), sl28⟩)
    (c28 : PySem.W.codeIn K cd28 "_law_take" = true)
    (k28 : PySem.W.keepIn K (.ref f28) = true)
    (a29 : PySem.W.nsIn K mainGlobals "_law_refused" = some (some (.ref f29)))
    (l29 : K.lookup f29 = some ⟨oc29, od29, .func (PySem.W.fnOf "_law_refused" "_law_refused" (defArgs (top 29)) (defBody (top 29)) (defScope (top 29)) .none kV29 dc29 pm29 an29 cd29 ct29), sl29⟩)
    (c29 : PySem.W.codeIn K cd29 "_law_refused" = true)
    (k29 : PySem.W.keepIn K (.ref f29) = true)
    (a30 : PySem.W.nsIn K mainGlobals "law" = some (some (.ref f30)))
    (l30 : K.lookup f30 = some ⟨oc30, od30, .func (PySem.W.fnOf "law" "law" (defArgs (top 30)) (defBody (top 30)) (defScope (top 30)) .none kV30 dc30 pm30 an30 (.ref cd30) ct30), sl30⟩)
    (c30 : PySem.W.codeIn K (.ref cd30) "law" = true)
    (k30 : PySem.W.keepIn K (.ref f30) = true)
    (tl30 : K.lookup cd30 = some ⟨te30, td30, .fields tv30, ts30⟩)
    (tp30 : tv30[11]? = some (.ref Pt30))
    (p30 : K.lookup Pt30 = none)
    (z_abs : PySem.W.nsIn K mainGlobals "abs" = some none)
    (z_all : PySem.W.nsIn K mainGlobals "all" = some none)
    (z_bool : PySem.W.nsIn K mainGlobals "bool" = some none)
    (z_int : PySem.W.nsIn K mainGlobals "int" = some none)
    (z_isinstance : PySem.W.nsIn K mainGlobals "isinstance" = some none)
    (z_len : PySem.W.nsIn K mainGlobals "len" = some none)
    (z_list : PySem.W.nsIn K mainGlobals "list" = some none)
    (z_max : PySem.W.nsIn K mainGlobals "max" = some none)
    (z_min : PySem.W.nsIn K mainGlobals "min" = some none)
    (z_range : PySem.W.nsIn K mainGlobals "range" = some none)
    (z_tuple : PySem.W.nsIn K mainGlobals "tuple" = some none)
    (z_zip : PySem.W.nsIn K mainGlobals "zip" = some none)
    (g_MOST : PySem.W.nsIn K mainGlobals "MOST" = some (some gu_MOST))
    (gr_MOST : RelV (.int 6) gu_MOST)
    (g_HALVES : PySem.W.nsIn K mainGlobals "HALVES" = some (some (.ref ga_HALVES)))
    (gl_HALVES : K.lookup ga_HALVES = some ⟨.type "tuple", none, .seq gi_HALVES gn_HALVES, gs_HALVES⟩)
    (gz_HALVES : gi_HALVES.size ≤ sizeLine)
    (gr_HALVES : Vals [.int 2, .int 3] gi_HALVES.toList)
    (da_NoNumber : PySem.W.nsIn K mainGlobals "NoNumber" = some (some (.ref D_NoNumber)))
    (df_NoNumber : ClsF K D_NoNumber)
    (na : PySem.W.nsIn K mainGlobals "NearError" = some (some (.ref near)))
    (nx_NoNumber : PySem.W.exmOne K (.ref D_NoNumber) (.ref near) = some true)
    (ta_NoOrder : PySem.W.nsIn K mainGlobals "NoOrder" = some (some (.ref D_NoOrder)))
    (tn_NoOrder : PySem.W.kitOne K (.type "NoneType") (.ref D_NoOrder) = some false)
    (tk_NoOrder_NoNumber : PySem.W.kitOne K (.ref D_NoNumber) (.ref D_NoOrder) = some false)
    (tn_NoNumber : PySem.W.kitOne K (.type "NoneType") (.ref D_NoNumber) = some false)
    (tk_NoNumber_NoNumber : PySem.W.kitOne K (.ref D_NoNumber) (.ref D_NoNumber) = some true)
    (ta_NoPairs : PySem.W.nsIn K mainGlobals "NoPairs" = some (some (.ref D_NoPairs)))
    (tn_NoPairs : PySem.W.kitOne K (.type "NoneType") (.ref D_NoPairs) = some false)
    (tk_NoPairs_NoNumber : PySem.W.kitOne K (.ref D_NoNumber) (.ref D_NoPairs) = some false)
    (ta_Round : PySem.W.nsIn K mainGlobals "Round" = some (some (.ref D_Round)))
    (tn_Round : PySem.W.kitOne K (.type "NoneType") (.ref D_Round) = some false)
    (tk_Round_NoNumber : PySem.W.kitOne K (.ref D_NoNumber) (.ref D_Round) = some false)
    (ta_NoThing : PySem.W.nsIn K mainGlobals "NoThing" = some (some (.ref D_NoThing)))
    (tn_NoThing : PySem.W.kitOne K (.type "NoneType") (.ref D_NoThing) = some false)
    (tk_NoThing_NoNumber : PySem.W.kitOne K (.ref D_NoNumber) (.ref D_NoThing) = some false)
    (ta_NoRow : PySem.W.nsIn K mainGlobals "NoRow" = some (some (.ref D_NoRow)))
    (tn_NoRow : PySem.W.kitOne K (.type "NoneType") (.ref D_NoRow) = some false)
    (tk_NoRow_NoNumber : PySem.W.kitOne K (.ref D_NoNumber) (.ref D_NoRow) = some false)
    (ta_TooMany : PySem.W.nsIn K mainGlobals "TooMany" = some (some (.ref D_TooMany)))
    (tn_TooMany : PySem.W.kitOne K (.type "NoneType") (.ref D_TooMany) = some false)
    (tk_TooMany_NoNumber : PySem.W.kitOne K (.ref D_NoNumber) (.ref D_TooMany) = some false)
    (ta_TooFew : PySem.W.nsIn K mainGlobals "TooFew" = some (some (.ref D_TooFew)))
    (tn_TooFew : PySem.W.kitOne K (.type "NoneType") (.ref D_TooFew) = some false)
    (tk_TooFew_NoNumber : PySem.W.kitOne K (.ref D_NoNumber) (.ref D_TooFew) = some false)
    (ta_NoText : PySem.W.nsIn K mainGlobals "NoText" = some (some (.ref D_NoText)))
    (tn_NoText : PySem.W.kitOne K (.type "NoneType") (.ref D_NoText) = some false)
    (tk_NoText_NoNumber : PySem.W.kitOne K (.ref D_NoNumber) (.ref D_NoText) = some false)
    (ta_NoLine : PySem.W.nsIn K mainGlobals "NoLine" = some (some (.ref D_NoLine)))
    (tn_NoLine : PySem.W.kitOne K (.type "NoneType") (.ref D_NoLine) = some false)
    (tk_NoLine_NoNumber : PySem.W.kitOne K (.ref D_NoNumber) (.ref D_NoLine) = some false)
    (ta_NoDeed : PySem.W.nsIn K mainGlobals "NoDeed" = some (some (.ref D_NoDeed)))
    (tn_NoDeed : PySem.W.kitOne K (.type "NoneType") (.ref D_NoDeed) = some false)
    (tk_NoDeed_NoNumber : PySem.W.kitOne K (.ref D_NoNumber) (.ref D_NoDeed) = some false)
    (ta_NoSeating : PySem.W.nsIn K mainGlobals "NoSeating" = some (some (.ref D_NoSeating)))
    (tn_NoSeating : PySem.W.kitOne K (.type "NoneType") (.ref D_NoSeating) = some false)
    (tk_NoSeating_NoNumber : PySem.W.kitOne K (.ref D_NoNumber) (.ref D_NoSeating) = some false)
    (ta_NoRing : PySem.W.nsIn K mainGlobals "NoRing" = some (some (.ref D_NoRing)))
    (tn_NoRing : PySem.W.kitOne K (.type "NoneType") (.ref D_NoRing) = some false)
    (tk_NoRing_NoNumber : PySem.W.kitOne K (.ref D_NoNumber) (.ref D_NoRing) = some false)
    (ta_NoSizes : PySem.W.nsIn K mainGlobals "NoSizes" = some (some (.ref D_NoSizes)))
    (tn_NoSizes : PySem.W.kitOne K (.type "NoneType") (.ref D_NoSizes) = some false)
    (tk_NoSizes_NoNumber : PySem.W.kitOne K (.ref D_NoNumber) (.ref D_NoSizes) = some false)
    (ta_ValueError : PySem.W.nsIn K mainGlobals "ValueError" = some none)
    (tn_ValueError : PySem.W.kitOne K (.type "NoneType") (.type "ValueError") = some false)
    (tk_ValueError_NoNumber : PySem.W.kitOne K (.ref D_NoNumber) (.type "ValueError") = some true)
    (plain : ∀ ns : List Int, ns.length ≤ 63 → (∀ z ∈ ns, Builtin.Int.intBits z ≤ 1048576) → f_law [scr ns] = .ret (.bool true) []) :
    LamX.LawAtS l w K (L2.CX l.prog w) 13 63 "_law_script" mg fa h := by
  have hB : BN mg := ⟨PySem.W.mg_none_of X G z_abs, PySem.W.mg_none_of X G z_all, PySem.W.mg_none_of X G z_bool, PySem.W.mg_none_of X G z_int, PySem.W.mg_none_of X G z_isinstance, PySem.W.mg_none_of X G z_len, PySem.W.mg_none_of X G z_list, PySem.W.mg_none_of X G z_max, PySem.W.mg_none_of X G z_min, PySem.W.mg_none_of X G z_range, PySem.W.mg_none_of X G z_tuple, PySem.W.mg_none_of X G z_zip⟩
  let xc : Nat → Value := fun c => (([D_NoNumber] : List Addr).map Value.ref).getD c .none
  have t30 := Fx.tabIn_mk a30 l30 tl30 tp30
  refine law_end (T := [(Pt30, lamQ "law")]) (cs := [(cd30, Pt30)]) (xc := xc) X G hfa a30 l30 (fun _ _ => .of_eq rfl) rfl ?_ ?_ plain ?_
  · intro p hp
    simp only [List.mem_cons, List.not_mem_nil, or_false] at hp
    rcases hp with rfl
    · exact tb30 _ _ t30
  · intro p hp
    simp only [List.mem_cons, List.not_mem_nil, or_false] at hp
    rcases hp with rfl
    · exact p30
  · intro base TB
    have R_NoNumber : RaiseD K mg xc 0 "NoNumber" := raiseF X G rfl da_NoNumber df_NoNumber (by decide)
    have G_MOST : GI mg "MOST" 6 := gi_mk X G g_MOST gr_MOST
    have G_HALVES : GT K mg "HALVES" [.int 2, .int 3] := gt_mk X G g_HALVES gl_HALVES gz_HALVES gr_HALVES fun F => .cons (.int _) (.cons (.int _) (.nil))
    have hC : ∀ D ∈ ([D_NoNumber] : List Addr), ClsF K D := fun D hD => by
        simp only [List.mem_cons, List.not_mem_nil, or_false] at hD
        rcases hD with rfl
        · exact df_NoNumber
    have I_NoOrder : IsxD K mg xc "NoOrder" b_NoOrder := isx_mk (L := [D_NoNumber]) X G ta_NoOrder tn_NoOrder (by decide) rfl rfl hC (show [PySem.W.kitOne K (.ref D_NoNumber) (.ref D_NoOrder)] = b_NoOrder.map some from by rw [tk_NoOrder_NoNumber]; rfl)
    have I_NoNumber : IsxD K mg xc "NoNumber" b_NoNumber := isx_mk (L := [D_NoNumber]) X G da_NoNumber tn_NoNumber (by decide) rfl rfl hC (show [PySem.W.kitOne K (.ref D_NoNumber) (.ref D_NoNumber)] = b_NoNumber.map some from by rw [tk_NoNumber_NoNumber]; rfl)
    have I_NoPairs : IsxD K mg xc "NoPairs" b_NoPairs := isx_mk (L := [D_NoNumber]) X G ta_NoPairs tn_NoPairs (by decide) rfl rfl hC (show [PySem.W.kitOne K (.ref D_NoNumber) (.ref D_NoPairs)] = b_NoPairs.map some from by rw [tk_NoPairs_NoNumber]; rfl)
    have I_Round : IsxD K mg xc "Round" b_Round := isx_mk (L := [D_NoNumber]) X G ta_Round tn_Round (by decide) rfl rfl hC (show [PySem.W.kitOne K (.ref D_NoNumber) (.ref D_Round)] = b_Round.map some from by rw [tk_Round_NoNumber]; rfl)
    have I_NoThing : IsxD K mg xc "NoThing" b_NoThing := isx_mk (L := [D_NoNumber]) X G ta_NoThing tn_NoThing (by decide) rfl rfl hC (show [PySem.W.kitOne K (.ref D_NoNumber) (.ref D_NoThing)] = b_NoThing.map some from by rw [tk_NoThing_NoNumber]; rfl)
    have I_NoRow : IsxD K mg xc "NoRow" b_NoRow := isx_mk (L := [D_NoNumber]) X G ta_NoRow tn_NoRow (by decide) rfl rfl hC (show [PySem.W.kitOne K (.ref D_NoNumber) (.ref D_NoRow)] = b_NoRow.map some from by rw [tk_NoRow_NoNumber]; rfl)
    have I_TooMany : IsxD K mg xc "TooMany" b_TooMany := isx_mk (L := [D_NoNumber]) X G ta_TooMany tn_TooMany (by decide) rfl rfl hC (show [PySem.W.kitOne K (.ref D_NoNumber) (.ref D_TooMany)] = b_TooMany.map some from by rw [tk_TooMany_NoNumber]; rfl)
    have I_TooFew : IsxD K mg xc "TooFew" b_TooFew := isx_mk (L := [D_NoNumber]) X G ta_TooFew tn_TooFew (by decide) rfl rfl hC (show [PySem.W.kitOne K (.ref D_NoNumber) (.ref D_TooFew)] = b_TooFew.map some from by rw [tk_TooFew_NoNumber]; rfl)
    have I_NoText : IsxD K mg xc "NoText" b_NoText := isx_mk (L := [D_NoNumber]) X G ta_NoText tn_NoText (by decide) rfl rfl hC (show [PySem.W.kitOne K (.ref D_NoNumber) (.ref D_NoText)] = b_NoText.map some from by rw [tk_NoText_NoNumber]; rfl)
    have I_NoLine : IsxD K mg xc "NoLine" b_NoLine := isx_mk (L := [D_NoNumber]) X G ta_NoLine tn_NoLine (by decide) rfl rfl hC (show [PySem.W.kitOne K (.ref D_NoNumber) (.ref D_NoLine)] = b_NoLine.map some from by rw [tk_NoLine_NoNumber]; rfl)
    have I_NoDeed : IsxD K mg xc "NoDeed" b_NoDeed := isx_mk (L := [D_NoNumber]) X G ta_NoDeed tn_NoDeed (by decide) rfl rfl hC (show [PySem.W.kitOne K (.ref D_NoNumber) (.ref D_NoDeed)] = b_NoDeed.map some from by rw [tk_NoDeed_NoNumber]; rfl)
    have I_NoSeating : IsxD K mg xc "NoSeating" b_NoSeating := isx_mk (L := [D_NoNumber]) X G ta_NoSeating tn_NoSeating (by decide) rfl rfl hC (show [PySem.W.kitOne K (.ref D_NoNumber) (.ref D_NoSeating)] = b_NoSeating.map some from by rw [tk_NoSeating_NoNumber]; rfl)
    have I_NoRing : IsxD K mg xc "NoRing" b_NoRing := isx_mk (L := [D_NoNumber]) X G ta_NoRing tn_NoRing (by decide) rfl rfl hC (show [PySem.W.kitOne K (.ref D_NoNumber) (.ref D_NoRing)] = b_NoRing.map some from by rw [tk_NoRing_NoNumber]; rfl)
    have I_NoSizes : IsxD K mg xc "NoSizes" b_NoSizes := isx_mk (L := [D_NoNumber]) X G ta_NoSizes tn_NoSizes (by decide) rfl rfl hC (show [PySem.W.kitOne K (.ref D_NoNumber) (.ref D_NoSizes)] = b_NoSizes.map some from by rw [tk_NoSizes_NoNumber]; rfl)
    have I_ValueError : IsxD K mg xc "ValueError" b_ValueError := isxB_mk (L := [D_NoNumber]) X G ta_ValueError rfl tn_ValueError (by decide) (by decide) rfl rfl hC (show [PySem.W.kitOne K (.ref D_NoNumber) (.type "ValueError")] = b_ValueError.map some from by rw [tk_ValueError_NoNumber]; rfl)
    have hx := exm_mk (xc := xc) (okc := okc) (near := near) (L := [D_NoNumber]) rfl (fun c h => of_decide_eq_true h) (show [PySem.W.exmOne K (.ref D_NoNumber) (.ref near)] = [some true] from by rw [nx_NoNumber])
    have D_is_whole := ok_is_whole (P := l.prog) (w := w) (base := base) (T := [(Pt30, lamQ "law")]) (xc := xc) (at_mk X G a18 l18 c18 k18) hB
    have D_is_number := ok_is_number (P := l.prog) (w := w) (base := base) (T := [(Pt30, lamQ "law")]) (xc := xc) (at_mk X G a19 l19 c19 k19) hB D_is_whole G_MOST
    have D_fence := ok_fence (P := l.prog) (w := w) (base := base) (T := [(Pt30, lamQ "law")]) (xc := xc) (at_mk X G a22 l22 c22 k22) hB D_is_number R_NoNumber
    have D_crown := ok_crown (P := l.prog) (w := w) (base := base) (T := [(Pt30, lamQ "law")]) (xc := xc) (at_mk X G a23 l23 c23 k23) hB D_is_whole R_NoNumber G_HALVES
    have D__law_same := ok__law_same (P := l.prog) (w := w) (base := base) (T := [(Pt30, lamQ "law")]) (xc := xc) (at_mk X G a25 l25 c25 k25) hB 12
    have D__law_cell_at := ok__law_cell_at (P := l.prog) (w := w) (base := base) (T := [(Pt30, lamQ "law")]) (xc := xc) (at_mk X G a26 l26 c26 k26) hB
    have D__law_state := ok__law_state (P := l.prog) (w := w) (base := base) (T := [(Pt30, lamQ "law")]) (xc := xc) (at_mk X G a27 l27 c27 k27) hB D__law_cell_at
    have D__law_take := ok__law_take (P := l.prog) (w := w) (base := base) (T := [(Pt30, lamQ "law")]) (xc := xc) (at_mk X G a28 l28 c28 k28) hB
    have D__law_refused := ok__law_refused (P := l.prog) (w := w) (base := base) (T := [(Pt30, lamQ "law")]) (xc := xc) (at_mk X G a29 l29 c29 k29) hB (PySem.W.mg_of X G na) hx I_NoOrder I_NoNumber I_NoPairs I_Round I_NoThing I_NoRow I_TooMany I_TooFew I_NoText I_NoLine I_NoDeed I_NoSeating I_NoRing I_NoSizes I_ValueError
    have hu30 : ∀ p ∈ ([(Pt30, lamQ "law")] : List (Addr × Str)), p.1 = Pt30 → p.2 = lamQ "law" := fun p hp e => by
        simp only [List.mem_cons, List.not_mem_nil, or_false] at hp
        rcases hp with rfl
        · rfl

    have D_law := ok_law (P := l.prog) (w := w) (base := base) (T := [(Pt30, lamQ "law")]) (xc := xc) (atC_mk X G a30 l30 c30 k30) (TB _ List.mem_cons_self) List.mem_cons_self hu30 hB D_fence D_crown D__law_same D__law_state D__law_take D__law_refused
    exact D_law
end K73
open PySem PySem.W PyProof.Rows
set_option maxRecDepth 100000 in
set_option maxHeartbeats 0 in
theorem PySem.Challenge.cw_nearorders_k73_fences_and_crowns_holds : PySem.Challenge.rw_nearorders_k73_fences_and_crowns.Holds := by
  w_on; o_law; k_head; (case hw => w_witness2)
  k_fill
  refine Fx.walkT (l := PySem.Challenge.rw_nearorders_k73_fences_and_crowns) (n := 63) (k := 13) (x := "_law_script") rfl (by decide) rfl ⟨rfl, by decide, by decide⟩ (fun w h Y => by first | exact PySem.W.kIn_of Y | exact PySem.W.km_in_of Y) ?F
  case F =>
    intro w mg fa h Y KX G hmg tab
    refine' K73.facts KX G hmg (tab "law" (by rfl)) ?a18 ?l18 ?c18 ?k18 ?a19 ?l19 ?c19 ?k19 ?a22 ?l22 ?c22 ?k22 ?a23 ?l23 ?c23 ?k23 ?a25 ?l25 ?c25 ?k25 ?a26 ?l26 ?c26 ?k26 ?a27 ?l27 ?c27 ?k27 ?a28 ?l28 ?c28 ?k28 ?a29 ?l29 ?c29 ?k29 ?a30 ?l30 ?c30 ?k30 ?tl30 ?tp30 ?p30 ?z_abs ?z_all ?z_bool ?z_int ?z_isinstance ?z_len ?z_list ?z_max ?z_min ?z_range ?z_tuple ?z_zip ?g_MOST ?gr_MOST ?g_HALVES ?gl_HALVES ?gz_HALVES ?gr_HALVES ?da_NoNumber ?df_NoNumber ?na ?nx_NoNumber ?ta_NoOrder ?tn_NoOrder ?tk_NoOrder_NoNumber ?tn_NoNumber ?tk_NoNumber_NoNumber ?ta_NoPairs ?tn_NoPairs ?tk_NoPairs_NoNumber ?ta_Round ?tn_Round ?tk_Round_NoNumber ?ta_NoThing ?tn_NoThing ?tk_NoThing_NoNumber ?ta_NoRow ?tn_NoRow ?tk_NoRow_NoNumber ?ta_TooMany ?tn_TooMany ?tk_TooMany_NoNumber ?ta_TooFew ?tn_TooFew ?tk_TooFew_NoNumber ?ta_NoText ?tn_NoText ?tk_NoText_NoNumber ?ta_NoLine ?tn_NoLine ?tk_NoLine_NoNumber ?ta_NoDeed ?tn_NoDeed ?tk_NoDeed_NoNumber ?ta_NoSeating ?tn_NoSeating ?tk_NoSeating_NoNumber ?ta_NoRing ?tn_NoRing ?tk_NoRing_NoNumber ?ta_NoSizes ?tn_NoSizes ?tk_NoSizes_NoNumber ?ta_ValueError ?tn_ValueError ?tk_ValueError_NoNumber K73.plain
    (case a18 => k_is)
    (case l18 => k_is)
    (case c18 => k_is)
    (case k18 => k_is)
    (case a19 => k_is)
    (case l19 => k_is)
    (case c19 => k_is)
    (case k19 => k_is)
    (case a22 => k_is)
    (case l22 => k_is)
    (case c22 => k_is)
    (case k22 => k_is)
    (case a23 => k_is)
    (case l23 => k_is)
    (case c23 => k_is)
    (case k23 => k_is)
    (case a25 => k_is)
    (case l25 => k_is)
    (case c25 => k_is)
    (case k25 => k_is)
    (case a26 => k_is)
    (case l26 => k_is)
    (case c26 => k_is)
    (case k26 => k_is)
    (case a27 => k_is)
    (case l27 => k_is)
    (case c27 => k_is)
    (case k27 => k_is)
    (case a28 => k_is)
    (case l28 => k_is)
    (case c28 => k_is)
    (case k28 => k_is)
    (case a29 => k_is)
    (case l29 => k_is)
    (case c29 => k_is)
    (case k29 => k_is)
    (case a30 => k_is)
    (case l30 => k_is)
    (case c30 => k_is)
    (case k30 => k_is)
    (case tl30 => k_is)
    (case tp30 => exact rfl)
    (case p30 => first | k_is | kernel_rfl)
    (case z_abs => k_is)
    (case z_all => k_is)
    (case z_bool => k_is)
    (case z_int => k_is)
    (case z_isinstance => k_is)
    (case z_len => k_is)
    (case z_list => k_is)
    (case z_max => k_is)
    (case z_min => k_is)
    (case z_range => k_is)
    (case z_tuple => k_is)
    (case z_zip => k_is)
    (case g_MOST => k_is)
    (case gr_MOST => exact ⟨_, rfl⟩)
    (case g_HALVES => k_is)
    (case gl_HALVES => k_is)
    (case gz_HALVES => exact (by decide))
    (case gr_HALVES => exact .cons ⟨_, rfl⟩ (.cons ⟨_, rfl⟩ (.nil)))
    (case da_NoNumber => k_is)
    (case df_NoNumber => exact ⟨by first | k_is | kernel_rfl, by first | k_is | kernel_rfl, by first | k_is | kernel_rfl, ⟨by first | k_is | kernel_rfl, by first | k_is | kernel_rfl, by first | k_is | kernel_rfl, by first | k_is | kernel_rfl, by first | k_is | kernel_rfl, by first | k_is | kernel_rfl, by first | k_is | kernel_rfl, by first | k_is | kernel_rfl⟩⟩)
    (case na => k_is)
    (case nx_NoNumber => first | kit_is | k_is | kernel_rfl)
    (case ta_NoOrder => k_is)
    (case tn_NoOrder => first | kit_is | k_is | kernel_rfl)
    (case tk_NoOrder_NoNumber => first | kit_is | k_is | kernel_rfl)
    (case tn_NoNumber => first | kit_is | k_is | kernel_rfl)
    (case tk_NoNumber_NoNumber => first | kit_is | k_is | kernel_rfl)
    (case ta_NoPairs => k_is)
    (case tn_NoPairs => first | kit_is | k_is | kernel_rfl)
    (case tk_NoPairs_NoNumber => first | kit_is | k_is | kernel_rfl)
    (case ta_Round => k_is)
    (case tn_Round => first | kit_is | k_is | kernel_rfl)
    (case tk_Round_NoNumber => first | kit_is | k_is | kernel_rfl)
    (case ta_NoThing => k_is)
    (case tn_NoThing => first | kit_is | k_is | kernel_rfl)
    (case tk_NoThing_NoNumber => first | kit_is | k_is | kernel_rfl)
    (case ta_NoRow => k_is)
    (case tn_NoRow => first | kit_is | k_is | kernel_rfl)
    (case tk_NoRow_NoNumber => first | kit_is | k_is | kernel_rfl)
    (case ta_TooMany => k_is)
    (case tn_TooMany => first | kit_is | k_is | kernel_rfl)
    (case tk_TooMany_NoNumber => first | kit_is | k_is | kernel_rfl)
    (case ta_TooFew => k_is)
    (case tn_TooFew => first | kit_is | k_is | kernel_rfl)
    (case tk_TooFew_NoNumber => first | kit_is | k_is | kernel_rfl)
    (case ta_NoText => k_is)
    (case tn_NoText => first | kit_is | k_is | kernel_rfl)
    (case tk_NoText_NoNumber => first | kit_is | k_is | kernel_rfl)
    (case ta_NoLine => k_is)
    (case tn_NoLine => first | kit_is | k_is | kernel_rfl)
    (case tk_NoLine_NoNumber => first | kit_is | k_is | kernel_rfl)
    (case ta_NoDeed => k_is)
    (case tn_NoDeed => first | kit_is | k_is | kernel_rfl)
    (case tk_NoDeed_NoNumber => first | kit_is | k_is | kernel_rfl)
    (case ta_NoSeating => k_is)
    (case tn_NoSeating => first | kit_is | k_is | kernel_rfl)
    (case tk_NoSeating_NoNumber => first | kit_is | k_is | kernel_rfl)
    (case ta_NoRing => k_is)
    (case tn_NoRing => first | kit_is | k_is | kernel_rfl)
    (case tk_NoRing_NoNumber => first | kit_is | k_is | kernel_rfl)
    (case ta_NoSizes => k_is)
    (case tn_NoSizes => first | kit_is | k_is | kernel_rfl)
    (case tk_NoSizes_NoNumber => first | kit_is | k_is | kernel_rfl)
    (case ta_ValueError => k_is)
    (case tn_ValueError => first | kit_is | k_is | kernel_rfl)
    (case tk_ValueError_NoNumber => first | kit_is | k_is | kernel_rfl)
#print axioms PySem.Challenge.cw_nearorders_k73_fences_and_crowns_holds

