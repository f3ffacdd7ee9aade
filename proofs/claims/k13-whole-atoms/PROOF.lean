import PyProof.Rows.All
import Wide.All
import OpenK.AllK
import Wide.FinOn
import KE.KStateDown
import Lean
import HandS.Base
import HandS.Call
import HandS.List
import HandS.Comp
import HandS.Ends
import HandS.Dict
import HandS.Iter
import HandS.Text
import HandS.Words
import HandS.WordsList
import HandS.WordsDict
import HandS.WordsExc
import HandS.More
import HandS.DictComp
import HandS.Zip
import HandS.Wide
import HandS.TupMul
import HandS.TupAny
import HandS.IsInst
import HandS.Exc
import HandS.ExcOwn
import HandS.CallSlots
import HandS.Defaults
import HandS.Style
import HandS.Flow
import HandS.Conv
import HandS.Head0
import HandS.Head1
import HandS.Head2
import HandS.HeadEnd
import HandS.HeadHook1
import HandS.HeadHook2
import KE.DataEq
import KE.LtData
import KE.DataCmp
import KE.DataAny
import KE.SortData
import PySem.Challenge.RW_pathstrue_k13_whole_atoms
set_option Elab.async false
set_option linter.all false
set_option maxRecDepth 100000
set_option maxHeartbeats 0
set_option autoImplicit false
namespace Mp
open PySem PySem.Spec PyProof.Rows L2
abbrev D := PyData

/-! ## results -/
inductive Out (α : Type) where
  | ok (a : α)
  | exc (c : Str) (fs : List (Str × D))
  | stuck
namespace Out
def bind {α β : Type} (x : Out α) (f : α → Out β) : Out β := match x with
  | .ok a => f a
  | .exc c fs => .exc c fs
  | .stuck => .stuck
end Out

/-! ## what a value stands for -/
def keyD : Key → D
  | .inl i => .int i
  | .inr x => .str x
/-- a tuple of the written part -/
def WrT (K : PySem.W.Frag) (a : Addr) (xs : List V) : Prop := ∃ (o : Obj) (is : Array Value) (k : Nat),
  (K.lookup a = some o ∧ o.cls = .type "tuple") ∧ o.data = .seq is k ∧ is.size ≤ sizeLine ∧ Vals xs is.toList
theorem WrT.sq {K : PySem.W.Frag} {a : Addr} {xs : List V} (h : WrT K a xs) (H : Hp) : SqT K H a xs := by
  obtain ⟨o, is, k, ⟨h1, h2⟩, h4, h5, h6⟩ := h
  exact .inr ⟨o, is, k, h1, h2, h4, h5, h6⟩
mutual
inductive Rep (K : PySem.W.Frag) (U : Addr → Prop) (H : Hp) : V → D → Prop
  | non : Rep K U H .non .none
  | bl (b : Bool) : Rep K U H (.bl b) (.bool b)
  | int (i : Int) : Rep K U H (.int i) (.int i)
  | str (x : Str) : Rep K U H (.str x) (.str x)
  | tup {a : Addr} {xs : List V} {ds : List D} : ((¬ U a ∧ Rd H a (.tup xs)) ∨ WrT K a xs) → Reps K U H xs ds → Rep K U H (.ref a) (.tuple ds)
  | lst {a : Addr} {xs : List V} {ds : List D} : ¬ U a → Rd H a (.lst xs) → Reps K U H xs ds → Rep K U H (.ref a) (.list ds)
  | dct {a : Addr} {kvs : List (Key × V)} {es : List (D × D)} : ¬ U a → Rd H a (.dK kvs) → RepK K U H kvs es → Rep K U H (.ref a) (.dict es)
inductive Reps (K : PySem.W.Frag) (U : Addr → Prop) (H : Hp) : List V → List D → Prop
  | nil : Reps K U H [] []
  | cons {v : V} {vs : List V} {d : D} {ds : List D} : Rep K U H v d → Reps K U H vs ds → Reps K U H (v :: vs) (d :: ds)
inductive RepK (K : PySem.W.Frag) (U : Addr → Prop) (H : Hp) : List (Key × V) → List (D × D) → Prop
  | nil : RepK K U H [] []
  | cons {k : Key} {v : V} {kvs : List (Key × V)} {d : D} {es : List (D × D)} : Rep K U H v d → RepK K U H kvs es → RepK K U H ((k, v) :: kvs) ((keyD k, d) :: es)
end
/-- what is tracked outside U is kept; U' has nothing that was there and is not in U -/
structure Kp (U U' : Addr → Prop) (H H' : Hp) : Prop where
  k : ∀ a o, H a = some o → ¬ U a → H' a = some o
  u : ∀ a, U' a → U a ∨ H a = none
theorem Rd.some {H : Hp} {a : Addr} {o : HO} (h : Rd H a o) : ∃ o', H a = some o' := by
  rcases h with h | ⟨q, h⟩
  · exact ⟨_, h⟩
  · exact ⟨_, h⟩
theorem Kp.rd {U U' : Addr → Prop} {H H' : Hp} (p : Kp U U' H H') {a : Addr} {o : HO} (hu : ¬ U a) (h : Rd H a o) : ¬ U' a ∧ Rd H' a o := by
  constructor
  · intro z
    rcases p.u a z with z | z
    · exact hu z
    · obtain ⟨o', e⟩ := Rd.some h
      rw [z] at e; cases e
  · rcases h with h | ⟨q, h⟩
    · exact .inl (p.k _ _ h hu)
    · exact .inr ⟨q, p.k _ _ h hu⟩
section
variable {K : PySem.W.Frag} {U U' : Addr → Prop} {H H' : Hp}
mutual
theorem Rep.mono (p : Kp U U' H H') : ∀ {v : V} {d : D}, Rep K U H v d → Rep K U' H' v d
  | _, _, .non => .non
  | _, _, .bl b => .bl b
  | _, _, .int i => .int i
  | _, _, .str x => .str x
  | _, _, .tup h r => .tup (h.imp (fun q => p.rd q.1 q.2) id) (Reps.mono p r)
  | _, _, .lst h1 h2 r => .lst (p.rd h1 h2).1 (p.rd h1 h2).2 (Reps.mono p r)
  | _, _, .dct h1 h2 r => .dct (p.rd h1 h2).1 (p.rd h1 h2).2 (RepK.mono p r)
theorem Reps.mono (p : Kp U U' H H') : ∀ {vs : List V} {ds : List D}, Reps K U H vs ds → Reps K U' H' vs ds
  | _, _, .nil => .nil
  | _, _, .cons r t => .cons (Rep.mono p r) (Reps.mono p t)
theorem RepK.mono (p : Kp U U' H H') : ∀ {vs : List (Key × V)} {ds : List (D × D)}, RepK K U H vs ds → RepK K U' H' vs ds
  | _, _, .nil => .nil
  | _, _, .cons r t => .cons (Rep.mono p r) (RepK.mono p t)
end
theorem Kp.same (s : Same H H') : Kp U U H H' := ⟨fun a o e _ => s a o e, fun _ z => .inl z⟩
theorem Kp.less (h : ∀ a, U' a → U a) : Kp U U' H H := ⟨fun _ _ e _ => e, fun a z => .inl (h a z)⟩
abbrev NoU : Addr → Prop := fun _ => False
theorem Kp.noU : Kp U NoU H H := Kp.less fun _ z => z.elim
theorem Reps.length : ∀ {vs : List V} {ds : List D}, Reps K U H vs ds → vs.length = ds.length
  | _, _, .nil => rfl
  | _, _, .cons _ t => congrArg (· + 1) (Reps.length t)
theorem RepK.length : ∀ {vs : List (Key × V)} {ds : List (D × D)}, RepK K U H vs ds → vs.length = ds.length
  | _, _, .nil => rfl
  | _, _, .cons _ t => congrArg (· + 1) (RepK.length t)
theorem Reps.append : ∀ {vs ws : List V} {ds es : List D}, Reps K U H vs ds → Reps K U H ws es → Reps K U H (vs ++ ws) (ds ++ es)
  | _, _, _, _, .nil, s => s
  | _, _, _, _, .cons r t, s => .cons r (Reps.append t s)
theorem Reps.get : ∀ {vs : List V} {ds : List D}, Reps K U H vs ds → ∀ {i : Nat} {d : D}, ds[i]? = some d → ∃ v, vs[i]? = some v ∧ Rep K U H v d
  | _, _, .nil, i, d, e => by simp at e
  | _, _, .cons (d := d0) r t, 0, d, e => by
    obtain rfl : d0 = d := by simpa using e
    exact ⟨_, rfl, r⟩
  | _, _, .cons r t, i + 1, d, e => by
    obtain ⟨v, h1, h2⟩ := Reps.get t (i := i) (d := d) (by simpa using e)
    exact ⟨v, by simpa using h1, h2⟩
theorem Reps.get' : ∀ {vs : List V} {ds : List D}, Reps K U H vs ds → ∀ {i : Nat} {v : V}, vs[i]? = some v → ∃ d, ds[i]? = some d ∧ Rep K U H v d
  | _, _, .nil, i, d, e => by simp at e
  | _, _, .cons (v := d0) r t, 0, d, e => by
    obtain rfl : d0 = d := by simpa using e
    exact ⟨_, rfl, r⟩
  | _, _, .cons r t, i + 1, d, e => by
    obtain ⟨v, h1, h2⟩ := Reps.get' t (i := i) (v := d) (by simpa using e)
    exact ⟨v, by simpa using h1, h2⟩
theorem Reps.set {x : V} {u : D} (r : Rep K U H x u) : ∀ {xs : List V} {us : List D}, Reps K U H xs us → ∀ (i : Nat), Reps K U H (xs.set i x) (us.set i u)
  | _, _, .nil, _ => .nil
  | _, _, .cons _ t, 0 => .cons r t
  | _, _, .cons q t, i + 1 => .cons q (Reps.set r t i)
theorem Reps.take : ∀ {xs : List V} {us : List D}, Reps K U H xs us → ∀ (i : Nat), Reps K U H (xs.take i) (us.take i)
  | _, _, _, 0 => .nil
  | _, _, .nil, _ + 1 => .nil
  | _, _, .cons q t, i + 1 => .cons q (Reps.take t i)
theorem Reps.drop : ∀ {xs : List V} {us : List D}, Reps K U H xs us → ∀ (i : Nat), Reps K U H (xs.drop i) (us.drop i)
  | _, _, t, 0 => t
  | _, _, .nil, _ + 1 => .nil
  | _, _, .cons q t, i + 1 => Reps.drop t i
/-- ints, bools, texts -/
theorem Reps.ints : ∀ {vs : List V} {ns : List Int}, Reps K U H vs (ns.map .int) → vs = ns.map V.int
  | _, [], .nil => rfl
  | _, n :: ns, .cons (.int _) t => by rw [List.map_cons, Reps.ints t]
theorem Reps.bls : ∀ {vs : List V} {ns : List Bool}, Reps K U H vs (ns.map .bool) → vs = ns.map V.bl
  | _, [], .nil => rfl
  | _, n :: ns, .cons (.bl _) t => by rw [List.map_cons, Reps.bls t]
theorem Reps.strs : ∀ {vs : List V} {ns : List Str}, Reps K U H vs (ns.map .str) → vs = ns.map V.str
  | _, [], .nil => rfl
  | _, n :: ns, .cons (.str _) t => by rw [List.map_cons, Reps.strs t]
theorem Reps.of_ints (ns : List Int) : Reps K U H (ns.map V.int) (ns.map .int) := by
  induction ns with
  | nil => exact .nil
  | cons n ns ih => exact .cons (.int n) ih
theorem Reps.of_strs (ns : List Str) : Reps K U H (ns.map V.str) (ns.map .str) := by
  induction ns with
  | nil => exact .nil
  | cons n ns ih => exact .cons (.str n) ih
end
/-! ## owned objects -/
def Own (K : PySem.W.Frag) (U : Addr → Prop) (H : Hp) (a : Addr) : D → Prop
  | .list ds => ∃ vs, H a = some (.lst vs) ∧ Reps K U H vs ds
  | .dict es => ∃ kvs, H a = some (.dK kvs) ∧ RepK K U H kvs es
  | _ => False
theorem Own.mono {K : PySem.W.Frag} {U U' : Addr → Prop} {H H' : Hp} (p : Kp U U' H H') {a : Addr} (ha : ∀ o, H a = some o → H' a = some o) {d : D} (h : Own K U H a d) : Own K U' H' a d := by
  cases d with
  | list ds =>
    obtain ⟨vs, e, r⟩ := h
    exact ⟨vs, ha _ e, r.mono p⟩
  | dict es =>
    obtain ⟨vs, e, r⟩ := h
    exact ⟨vs, ha _ e, r.mono p⟩
  | _ => exact h.elim
theorem Own.some {K : PySem.W.Frag} {U : Addr → Prop} {H : Hp} {a : Addr} {d : D} (h : Own K U H a d) : ∃ o, H a = some o := by
  cases d with
  | list ds =>
    obtain ⟨vs, e, r⟩ := h
    exact ⟨_, e⟩
  | dict es =>
    obtain ⟨vs, e, r⟩ := h
    exact ⟨_, e⟩
  | _ => exact h.elim
/-- an owned object, as a value that nobody owns -/
theorem Own.rep {K : PySem.W.Frag} {U U' : Addr → Prop} {H : Hp} {a : Addr} {d : D} (h : Own K U H a d) (p : Kp U U' H H) (ha : ¬ U' a) : Rep K U' H (.ref a) d := by
  cases d with
  | list ds =>
    obtain ⟨vs, e, r⟩ := h
    exact .lst ha (.inl e) (r.mono p)
  | dict es =>
    obtain ⟨vs, e, r⟩ := h
    exact .dct ha (.inl e) (r.mono p)
  | _ => exact h.elim
/-- read, owned or not -/
def BRep (K : PySem.W.Frag) (U : Addr → Prop) (H : Hp) (v : V) (d : D) : Prop := Rep K U H v d ∨ ∃ a, v = .ref a ∧ U a ∧ Own K U H a d
theorem BRep.rep0 {K : PySem.W.Frag} {U : Addr → Prop} {H : Hp} {v : V} {d : D} (h : BRep K U H v d) : Rep K NoU H v d := by
  rcases h with h | ⟨a, rfl, hu, h⟩
  · exact h.mono Kp.noU
  · exact h.rep Kp.noU (fun z => z)
theorem BRep.lst {K : PySem.W.Frag} {U : Addr → Prop} {H : Hp} {v : V} {ds : List D} (h : BRep K U H v (.list ds)) : ∃ a xs, v = .ref a ∧ Rd H a (.lst xs) ∧ Reps K U H xs ds := by
  rcases h with h | ⟨a, rfl, hu, vs, e, r⟩
  · cases h with
    | lst _ h r => exact ⟨_, _, rfl, h, r⟩
  · exact ⟨a, vs, rfl, .inl e, r⟩
theorem BRep.dct {K : PySem.W.Frag} {U : Addr → Prop} {H : Hp} {v : V} {ds : List (D × D)} (h : BRep K U H v (.dict ds)) : ∃ a xs, v = .ref a ∧ Rd H a (.dK xs) ∧ RepK K U H xs ds := by
  rcases h with h | ⟨a, rfl, hu, vs, e, r⟩
  · cases h with
    | dct _ h r => exact ⟨_, _, rfl, h, r⟩
  · exact ⟨a, vs, rfl, .inl e, r⟩
theorem BRep.tup {K : PySem.W.Frag} {U : Addr → Prop} {H : Hp} {v : V} {ds : List D} (h : BRep K U H v (.tuple ds)) : ∃ a xs, v = .ref a ∧ SqT K H a xs ∧ Reps K U H xs ds := by
  rcases h with h | ⟨a, rfl, hu, h⟩
  · cases h with
    | tup h r =>
      rcases h with ⟨_, h⟩ | h
      · exact ⟨_, _, rfl, .inl h, r⟩
      · exact ⟨_, _, rfl, h.sq H, r⟩
  · exact h.elim
theorem BRep.int {K : PySem.W.Frag} {U : Addr → Prop} {H : Hp} {v : V} {i : Int} (h : BRep K U H v (.int i)) : v = .int i := by
  rcases h with h | ⟨a, rfl, hu, h⟩
  · cases h; rfl
  · exact h.elim
theorem BRep.str {K : PySem.W.Frag} {U : Addr → Prop} {H : Hp} {v : V} {i : Str} (h : BRep K U H v (.str i)) : v = .str i := by
  rcases h with h | ⟨a, rfl, hu, h⟩
  · cases h; rfl
  · exact h.elim
theorem BRep.bl {K : PySem.W.Frag} {U : Addr → Prop} {H : Hp} {v : V} {i : Bool} (h : BRep K U H v (.bool i)) : v = .bl i := by
  rcases h with h | ⟨a, rfl, hu, h⟩
  · cases h; rfl
  · exact h.elim
theorem BRep.non {K : PySem.W.Frag} {U : Addr → Prop} {H : Hp} {v : V} (h : BRep K U H v .none) : v = .non := by
  rcases h with h | ⟨a, rfl, hu, h⟩
  · cases h; rfl
  · exact h.elim
end Mp
namespace Mp
open PySem PySem.Spec PyProof.Rows L2
/-! ## the frame's slots -/
abbrev Rho := List (Option (Bool × D))
/-- the entry: the heap then; what the callers own -/
structure Ent where
  h : Hp
  b : Addr → Prop
/-- an object that can be written to -/
def MuO (o : HO) : Prop := (∃ xs, o = .lst xs) ∨ ∃ kvs, o = .dK kvs
/-- slot i holds d, owned (b) or not -/
def SlotR (K : PySem.W.Frag) (H0 : Ent) (U : Addr → Prop) (H : Hp) (v : Option (Option V)) : Option (Option (Bool × D)) → Prop
  | some (some (false, d)) => ∃ x, v = some (some x) ∧ Rep K U H x d
  | some (some (true, d)) => ∃ a, v = some (some (.ref a)) ∧ U a ∧ H0.h a = none ∧ Own K U H a d
  | _ => True
structure Pt (K : PySem.W.Frag) (H0 : Ent) (σ : L2.St) (H : Hp) (ρ : Rho) (U : Addr → Prop) : Prop where
  len : σ.length = ρ.length
  sl : ∀ (i : Nat), SlotR K H0 U H σ[i]? ρ[i]?
  ne : ∀ (i j : Nat) (d e : D) (a : Addr), ρ[i]? = some (some (true, d)) → ρ[j]? = some (some (true, e)) → σ[i]? = some (some (.ref a)) → σ[j]? = some (some (.ref a)) → i = j
  ud : ∀ (a : Addr), U a → ∃ o, H a = some o ∧ MuO o
  bu : ∀ (a : Addr), H0.b a → U a
  bd : ∀ (a : Addr), H0.b a → ∃ o, H0.h a = some o
  s0 : Same H0.h H
theorem SlotR.same {K : PySem.W.Frag} {H0 : Ent} {U : Addr → Prop} {H H' : Hp} (s : Same H H') {v : Option (Option V)} : ∀ {r : Option (Option (Bool × D))}, SlotR K H0 U H v r → SlotR K H0 U H' v r
  | some (some (false, d)), ⟨x, e, r⟩ => ⟨x, e, r.mono (Kp.same s)⟩
  | some (some (true, d)), ⟨a, e, u, h0, r⟩ => ⟨a, e, u, h0, r.mono (Kp.same s) fun o q => s _ _ q⟩
  | some none, _ => trivial
  | none, _ => trivial
theorem Pt.same {K : PySem.W.Frag} {H0 : Ent} {σ : L2.St} {H H' : Hp} {ρ : Rho} {U : Addr → Prop} (P : Pt K H0 σ H ρ U) (s : Same H H') : Pt K H0 σ H' ρ U :=
  ⟨P.len, fun i => (P.sl i).same s, P.ne, fun a z => by
    obtain ⟨o, e, m⟩ := P.ud a z
    exact ⟨o, s _ _ e, m⟩, P.bu, P.bd, P.s0.trans s⟩
theorem Pt.fresh {K : PySem.W.Frag} {H0 : Ent} {σ : L2.St} {H : Hp} {ρ : Rho} {U : Addr → Prop} (P : Pt K H0 σ H ρ U) {p : Addr} (h : H p = none) : ¬ U p := fun z => by
  obtain ⟨o, e, _⟩ := P.ud p z
  rw [h] at e; cases e
theorem same_new {H : Hp} {p : Addr} {o : HO} (h : H p = none) : Same H (upd H p o) := fun b x e => by
  rw [upd_ne (ne_of_none e h)]
  exact e
/-! ## modes of a value: as it is, perhaps owned, a new object -/
inductive Md where
  | v | b | f
def RepM (K : PySem.W.Frag) (U : Addr → Prop) (H H' : Hp) (v : V) (d : D) : Md → Prop
  | .v => Rep K U H' v d
  | .b => BRep K U H' v d
  | .f => ∃ a, v = .ref a ∧ H a = none ∧ Own K (fun b => U b ∨ b = a) H' a d
theorem RepM.later {K : PySem.W.Frag} {U : Addr → Prop} {H H1 H' : Hp} (s : Same H H1) {v : V} {d : D} : ∀ {m : Md}, RepM K U H1 H' v d m → RepM K U H H' v d m
  | .v, h => h
  | .b, h => h
  | .f, ⟨a, e, n, r⟩ => ⟨a, e, s.free n, r⟩
theorem own_new {K : PySem.W.Frag} {U : Addr → Prop} {H : Hp} {a : Addr} {d : D} (h : Own K (fun b => U b ∨ b = a) H a d) (n : ¬ U a) : Rep K U H (.ref a) d :=
  h.rep (Kp.less fun _ z => .inl z) n
/-- an exception -/
def ExR (mg : Str → Option Value) (K : PySem.W.Frag) (H : Hp) (c : Str) (fs : List (Str × D)) (cls : Value) (d : Option Addr) : Prop :=
  mg c = some cls ∧ (fs = [] ∨ ∃ dd xs, d = some dd ∧ H dd = some (.xd xs) ∧ ∀ f y, fs.lookup f = some y → ∃ x, xs.lookup f = some x ∧ Rep K NoU H x y)
section
variable (X : Cx) (H0 : Ent) (W : WX)
/-- what is asked behind -/
def PostM (m : Md) (σ : L2.St) (H : Hp) (U : Addr → Prop) (Q : VK) : Out D → Prop
  | .ok d => ∀ v H', Same H H' → RepM X.K U H H' v d m → Q v H'
  | .exc c fs => ∀ cls dd H', Same H H' → ExR X.mg X.K H' c fs cls dd → W cls dd σ H'
  | .stuck => False
def tD (m : Md) (f : Rho → Out D) : TE := fun σ H Q => ∃ ρ U, Pt X.K H0 σ H ρ U ∧ PostM X W m σ H U Q (f ρ)
abbrev DE (m : Md) (e : Expr) (f : Rho → Out D) : Prop := PE X e (tD X H0 W m f)
end
section
variable {X : Cx} {H0 : Ent} {W : WX}
theorem PE.imp {e : Expr} {t t' : TE} (h : PE X e t) (i : ∀ σ H Q, t' σ H Q → t σ H Q) : PE X e t' := ⟨fun pins s σ H Q I q => h.run pins s σ H Q I (i σ H Q q)⟩
theorem PT.imp {e : Expr} {t t' : TT} (h : PT X e t) (i : ∀ σ H Q, t' σ H Q → t σ H Q) : PT X e t' := ⟨fun pins s σ H Q I q => h.run pins s σ H Q I (i σ H Q q)⟩
theorem PA.imp {e : List Expr} {t t' : TA} (h : PA X e t) (i : ∀ σ H Q, t' σ H Q → t σ H Q) : PA X e t' := ⟨fun pos pins s σ H Q I q => h.run pos pins s σ H Q I (i σ H Q q)⟩
theorem PS.imp {e : Stmt} {t t' : TS} (h : PS X e t) (i : ∀ D σ H, t' D σ H → t D σ H) : PS X e t' := ⟨fun pins s σ H D I q => h.run pins s σ H D I (i D σ H q)⟩
theorem PSs.imp {e : List Stmt} {t t' : TS} (h : PSs X e t) (i : ∀ D σ H, t' D σ H → t D σ H) : PSs X e t' := ⟨fun pins s σ H D I q => h.run pins s σ H D I (i D σ H q)⟩
theorem Same.tr {H H1 H2 : Hp} (a : Same H H1) (b : Same H1 H2) : Same H H2 := a.trans b
theorem PostM.later {m : Md} {σ : L2.St} {H H1 : Hp} {U : Addr → Prop} {Q : VK} (s : Same H H1) : ∀ {r : Out D}, PostM X W m σ H U Q r → PostM X W m σ H1 U Q r
  | .ok d, h => fun v H' s' r => h v H' (s.trans s') (r.later s)
  | .exc c fs, h => fun cls dd H' s' r => h cls dd H' (s.trans s') r
  | .stuck, h => h
theorem PostM.now {m : Md} {σ : L2.St} {H : Hp} {U : Addr → Prop} {Q : VK} {d : D} {v : V} (h : PostM X W m σ H U Q (.ok d)) (r : RepM X.K U H H v d m) : Q v H := h v H (Same.refl H) r
/-- weaker modes -/
theorem DE.toV {e : Expr} {f : Rho → Out D} (h : DE X H0 W .f e f) : DE X H0 W .v e f := PE.imp h fun σ H Q ⟨ρ, U, P, q⟩ => ⟨ρ, U, P, by
  revert q
  cases f ρ with
  | ok d => exact fun q v H' s ⟨a, e, n, r⟩ => q v H' s (by
      subst e
      exact own_new r (P.fresh n))
  | exc c fs => exact id
  | stuck => exact id⟩
theorem DE.toB {e : Expr} {f : Rho → Out D} (h : DE X H0 W .v e f) : DE X H0 W .b e f := PE.imp h fun σ H Q ⟨ρ, U, P, q⟩ => ⟨ρ, U, P, by
  revert q
  cases f ρ with
  | ok d => exact fun q v H' s r => q v H' s (.inl r)
  | exc c fs => exact id
  | stuck => exact id⟩
/-- a first part, then the rest -/
theorem tD.bind {m ma : Md} {fa : Rho → Out D} {k : D → Rho → Out D} {σ : L2.St} {H : Hp} {Q : VK} (h : tD X H0 W m (fun ρ => (fa ρ).bind fun d => k d ρ) σ H Q) :
    tD X H0 W ma fa σ H fun v H1 => ∃ ρ U d, Same H H1 ∧ Pt X.K H0 σ H1 ρ U ∧ RepM X.K U H H1 v d ma ∧ PostM X W m σ H1 U Q (k d ρ) := by
  obtain ⟨ρ, U, P, q⟩ := h
  replace q : PostM X W m σ H U Q ((fa ρ).bind fun d => k d ρ) := q
  refine ⟨ρ, U, P, ?_⟩
  revert q
  cases fa ρ with
  | ok d => exact fun q v H1 s r => ⟨ρ, U, d, s, P.same s, r, PostM.later s q⟩
  | exc c fs => exact fun q => q
  | stuck => exact fun q => q
/-- two parts that are read, then the rest -/
theorem tD.bind2 {m : Md} {fa fb : Rho → Out D} {k : D → D → Out D} {σ : L2.St} {H : Hp} {Q : VK} (h : tD X H0 W m (fun ρ => (fa ρ).bind fun x => (fb ρ).bind fun y => k x y) σ H Q) :
    tD X H0 W .b fa σ H fun v H1 => tD X H0 W .b fb σ H1 fun u H2 => ∃ U x y, (∀ p, H2 p = none → ¬ U p) ∧ BRep X.K U H2 v x ∧ BRep X.K U H2 u y ∧ PostM X W m σ H2 U Q (k x y) := by
  have h1 := tD.bind (ma := .b) (k := fun x ρ => (fb ρ).bind fun y => k x y) h
  obtain ⟨ρ, U, P, q⟩ := h1
  refine ⟨ρ, U, P, ?_⟩
  revert q
  cases fa ρ with
  | exc c fs => exact fun q => q
  | stuck => exact fun q => q
  | ok d =>
    intro q v H1 s r
    obtain ⟨ρ1, U1, x, s1, P1, r1, q1⟩ := q v H1 s r
    refine ⟨ρ1, U1, P1, ?_⟩
    revert q1
    cases fb ρ1 with
    | exc c fs => exact fun q => q
    | stuck => exact fun q => q
    | ok y =>
      intro q1 u H2 s2 r2
      refine ⟨U1, x, y, fun p hp => (P1.same s2).fresh hp, ?_, r2, PostM.later s2 q1⟩
      rcases r1 with r1 | ⟨a, e, hu, o⟩
      · exact .inl (r1.mono (Kp.same s2))
      · exact .inr ⟨a, e, hu, o.mono (Kp.same s2) fun _ z => s2 _ _ z⟩
/-- one part that is read -/
theorem tD.bind1 {m : Md} {fa : Rho → Out D} {k : D → Out D} {σ : L2.St} {H : Hp} {Q : VK} (h : tD X H0 W m (fun ρ => (fa ρ).bind k) σ H Q) :
    tD X H0 W .b fa σ H fun v H1 => ∃ U x, (∀ p, H1 p = none → ¬ U p) ∧ BRep X.K U H1 v x ∧ PostM X W m σ H1 U Q (k x) := by
  obtain ⟨ρ, U, P, q⟩ := tD.bind (ma := .b) (k := fun x _ => k x) h
  refine ⟨ρ, U, P, ?_⟩
  revert q
  cases fa ρ with
  | exc c fs => exact fun q => q
  | stuck => exact fun q => q
  | ok d =>
    intro q v H1 s r
    obtain ⟨ρ1, U1, x, s1, P1, r1, q1⟩ := q v H1 s r
    exact ⟨U1, x, fun p hp => P1.fresh hp, r1, q1⟩
/-! ## constants, names -/
theorem de_int {i : Int} {j pos} : DE X H0 W .v (.Constant (.int i) j pos) fun _ => .ok (.int i) := PE.imp pe_int fun _ H _ ⟨_, _, _, q⟩ => q (.int i) H (Same.refl H) (.int i)
theorem de_bl {i : Bool} {j pos} : DE X H0 W .v (.Constant (.bool i) j pos) fun _ => .ok (.bool i) := PE.imp pe_bl fun _ H _ ⟨_, _, _, q⟩ => q (.bl i) H (Same.refl H) (.bl i)
theorem de_str {i : Str} {j pos} : DE X H0 W .v (.Constant (.str i) j pos) fun _ => .ok (.str i) := PE.imp pe_str fun _ H _ ⟨_, _, _, q⟩ => q (.str i) H (Same.refl H) (.str i)
theorem de_non {j pos} : DE X H0 W .v (.Constant .none j pos) fun _ => .ok .none := PE.imp pe_non fun _ H _ ⟨_, _, _, q⟩ => q .non H (Same.refl H) .non
def getV (ρ : Rho) (i : Nat) : Out D := match ρ[i]? with
  | some (some (false, d)) => .ok d
  | _ => .stuck
def getB (ρ : Rho) (i : Nat) : Out D := match ρ[i]? with
  | some (some (_, d)) => .ok d
  | _ => .stuck
theorem de_var {i : Nat} {x : Str} {pos : Pos} (hN : X.N[i]? = some x) (hv : Vis X.env.scope x) (hd : (x == ("__debug__" : Str)) = false) (hcd : (x == ("__classdict__" : Str)) = false) : DE X H0 W .v (.Name x pos) fun ρ => getV ρ i :=
  PE.imp (pe_var hN hv hd hcd) fun σ H Q ⟨ρ, U, P, q⟩ => by
    have z := P.sl i
    replace q : PostM X W .v σ H U Q (getV ρ i) := q
    revert q z
    unfold getV
    generalize ρ[i]? = o
    rcases o with _ | _ | ⟨b, d⟩
    · exact fun _ q => q.elim
    · exact fun _ q => q.elim
    · cases b with
      | true => exact fun _ q => q.elim
      | false =>
        rintro ⟨x, e, r⟩ q
        exact ⟨x, e, q x H (Same.refl H) r⟩
theorem de_varB {i : Nat} {x : Str} {pos : Pos} (hN : X.N[i]? = some x) (hv : Vis X.env.scope x) (hd : (x == ("__debug__" : Str)) = false) (hcd : (x == ("__classdict__" : Str)) = false) : DE X H0 W .b (.Name x pos) fun ρ => getB ρ i :=
  PE.imp (pe_var hN hv hd hcd) fun σ H Q ⟨ρ, U, P, q⟩ => by
    have z := P.sl i
    replace q : PostM X W .b σ H U Q (getB ρ i) := q
    revert q z
    unfold getB
    generalize ρ[i]? = o
    rcases o with _ | _ | ⟨b, d⟩
    · exact fun _ q => q.elim
    · exact fun _ q => q.elim
    · cases b with
      | true =>
        rintro ⟨a, e, hu, h0, r⟩ q
        exact ⟨.ref a, e, q (.ref a) H (Same.refl H) (.inr ⟨a, rfl, hu, r⟩)⟩
      | false =>
        rintro ⟨x, e, r⟩ q
        exact ⟨x, e, q x H (Same.refl H) (.inl r)⟩
/-- a value of the written part -/
def WrRep (K : PySem.W.Frag) (v : V) (d : D) : Prop := ∀ U H, Rep K U H v d
theorem de_glob {x : Str} {v : V} {d : D} {u : Value} {pos : Pos} (hg : Gl X x) (hm : X.mg x = some u) (r : RelV v u) (w : WrRep X.K v d) (hd : (x == ("__debug__" : Str)) = false) : DE X H0 W .v (.Name x pos) fun _ => .ok d :=
  PE.imp (pe_glob hg hm r hd) fun _ H _ ⟨_, U, _, q⟩ => q v H (Same.refl H) (w U H)
/-! ## operators by values -/
theorem tD.mono {m : Md} {f : Rho → Out D} {σ : L2.St} {H : Hp} {Q Q' : VK} (h : tD X H0 W m f σ H Q) (i : ∀ v H', Q v H' → Q' v H') : tD X H0 W m f σ H Q' := by
  obtain ⟨ρ, U, P, q⟩ := h
  refine ⟨ρ, U, P, ?_⟩
  revert q
  cases f ρ with
  | ok d => exact fun q v H' s r => i v H' (q v H' s r)
  | exc c fs => exact fun q => q
  | stuck => exact fun q => q
theorem tD.two {m : Md} {r : R2} {g : D → D → Out D} {fa fb : Rho → Out D} {σ : L2.St} {H : Hp} {Q : VK}
    (hr : ∀ σ U H v u x y Q, (∀ p, H p = none → ¬ U p) → BRep X.K U H v x → BRep X.K U H u y → PostM X W m σ H U Q (g x y) → r v u H Q)
    (h : tD X H0 W m (fun ρ => (fa ρ).bind fun x => (fb ρ).bind fun y => g x y) σ H Q) : tOp r (tD X H0 W .b fa) (tD X H0 W .b fb) σ H Q :=
  (tD.bind2 h).mono fun v _ h3 => h3.mono fun u H2 ⟨U, x, y, hf, r1, r2, q⟩ => hr σ U H2 v u x y Q hf r1 r2 q
theorem de_op {op : Operator} {r : R2} {g : D → D → Out D} {m : Md} {a b : Expr} {fa fb : Rho → Out D} {pos : Pos} (ho : OpR X (binaryOp op) r)
    (hr : ∀ σ U H v u x y Q, (∀ p, H p = none → ¬ U p) → BRep X.K U H v x → BRep X.K U H u y → PostM X W m σ H U Q (g x y) → r v u H Q) (ha : DE X H0 W .b a fa) (hb : DE X H0 W .b b fb) :
    DE X H0 W m (.BinOp a op b pos) fun ρ => (fa ρ).bind fun x => (fb ρ).bind fun y => g x y :=
  PE.imp (pe_op ho ha hb) fun _ _ _ h => tD.two hr h
theorem de_cmp {op : CmpOp} {r : R2} {g : D → D → Out D} {m : Md} {a b : Expr} {fa fb : Rho → Out D} {pos : Pos} (ho : OpR X (compareOp op) r) (hm : behindInMarks op b = false)
    (hr : ∀ σ U H v u x y Q, (∀ p, H p = none → ¬ U p) → BRep X.K U H v x → BRep X.K U H u y → PostM X W m σ H U Q (g x y) → r v u H Q) (ha : DE X H0 W .b a fa) (hb : DE X H0 W .b b fb) :
    DE X H0 W m (.Compare a [op] [b] pos) fun ρ => (fa ρ).bind fun x => (fb ρ).bind fun y => g x y :=
  PE.imp (pe_cmpR ho ha hb hm) fun _ _ _ h => tD.two hr h
theorem de_un {op : UnaryOp} {r : V → Hp → VK → Prop} {g : D → Out D} {m : Md} {a : Expr} {fa : Rho → Out D} {pos : Pos} (ho : UnR X (unaryOp op) r)
    (hr : ∀ σ U H v x Q, (∀ p, H p = none → ¬ U p) → BRep X.K U H v x → PostM X W m σ H U Q (g x) → r v H Q) (ha : DE X H0 W .b a fa) :
    DE X H0 W m (.UnaryOp op a pos) fun ρ => (fa ρ).bind g :=
  PE.imp (pe_un ho ha) fun σ _ Q h => (tD.bind1 h).mono fun v H1 ⟨U, x, hf, r1, q⟩ => hr σ U H1 v x Q hf r1 q
end
end Mp
namespace Mp
open PySem PySem.Spec PyProof.Rows L2
/-! ## binary operators -/
def smallI (i : Int) : Bool := decide (-(2 ^ 64) < i) && decide (i < 2 ^ 64)
def addD : D → D → Out D
  | .int i, .int j => .ok (.int (i + j))
  | .str x, .str y => if x.length + y.length ≤ sizeLine then .ok (.str (x ++ y)) else .stuck
  | .tuple xs, .tuple ys => if xs.length + ys.length ≤ sizeLine then .ok (.tuple (xs ++ ys)) else .stuck
  | .list xs, .list ys => if xs.length + ys.length ≤ sizeLine then .ok (.list (xs ++ ys)) else .stuck
  | _, _ => .stuck
def subD : D → D → Out D
  | .int i, .int j => .ok (.int (i - j))
  | _, _ => .stuck
def mulD : D → D → Out D
  | .int i, .int j => if smallI i || smallI j then .ok (.int (i * j)) else .stuck
  | .tuple xs, .int k => if xs ≠ [] ∧ 2 ≤ k ∧ k ≤ 1000 ∧ xs.length ≤ 1000 then .ok (.tuple (List.replicate k.toNat xs).flatten) else if k = 1 then .ok (.tuple xs) else .stuck
  | _, _ => .stuck
def repD : D → D → Out D
  | .list xs, .int k => if -1000000 ≤ k ∧ k ≤ 1000000 ∧ xs.length * k.toNat ≤ sizeLine then .ok (.list (List.replicate k.toNat xs).flatten) else .stuck
  | _, _ => .stuck
def fdivD : D → D → Out D
  | .int i, .int j => if j ≠ 0 ∧ j.natAbs < 1073741824 then .ok (.int (i.fdiv j)) else if 0 < j ∧ j.natAbs.log2 < 9000 then .ok (.int (i / j)) else .stuck
  | _, _ => .stuck
def modD : D → D → Out D
  | .int i, .int j => if j ≠ 0 then .ok (.int (i.fmod j)) else .stuck
  | _, _ => .stuck
def powD : D → D → Out D
  | .int i, .int j => if 0 ≤ j ∧ j ≤ 1000000 ∧ i.natAbs < 2 ^ 64 then .ok (.int (i ^ j.toNat)) else .stuck
  | _, _ => .stuck
/-! ### a tuple, once -/
theorem tuple_once (a : Addr) (its : Array Value) (k : Nat) (dd : Option Addr) (sl : Array (Option Value)) (t : Tok) :
    Meets (Builtin.«tuple.__mul__» ⟨[.ref a, .int 1 t], []⟩) (fun _ R s => s.heap.get? a = some ⟨.type "tuple", dd, .seq its k, sl⟩ ∧ R (.ok (.ret (.ref a))) s) :=
  .of_wp fun pg ww B R st h => by
    obtain ⟨hp, g, d, tk, os⟩ := st
    obtain ⟨hl, q⟩ := h
    have f1 := AutoSeq1.idx_int
    wp_walk using wpAny_loadPart' hl
    exact ⟨_, rfl, q⟩
def rOnce (K : PySem.W.Frag) : R2 := fun x y H Q => ∃ a xs, x = .ref a ∧ y = .int 1 ∧ SqT K H a xs ∧ Q (.ref a) H
theorem op_once {X : Cx} : OpR X (binaryOp .Mult) (rOnce X.K) := by
  intro pins s σ H x y v u Q I rx ry h
  obtain ⟨a, xs, rfl, rfl, hT, q⟩ := h
  cases rx
  obtain ⟨t, rfl⟩ := ry
  obtain ⟨its, r, ⟨⟨cls, dd, data, sl⟩, ho, hc, m, hd⟩, hs⟩ := I.tuple hT
  simp only at hc hd
  subst hc hd
  have hi := typeIs_int s 1 t
  have fin : EP X pins σ Q (.ref a) s := ⟨.ref a, H, I, rfl, q⟩
  have c2 := call_meets (prog := X.prog) (w := X.w) (A := X.A) (E := X.xe) (Q := EP X pins σ Q) (s := s) F.slot_tuple_mul (self := .ref a) ⟨_, ho, rfl⟩ F.entry_tuple_mul
    (F.args_tuple_mul_2 _ _) (tuple_once a its.toArray m dd sl t) ⟨ho, fin⟩
  refine wpAny_binaryOp_repeat_ref (T := "tuple") (by decide) ⟨_, ho, rfl⟩ (U := "int") (fun z => typeIs_int z 1 t) noFill_tuple_mul F.fills_int_mul F.slot_int_rmul
    repeat_tuple F.slot_int_index.lookup ?_
  exact call_meets F.slot_int_rmul hi F.entry_int_rmul (F.args_int_rmul_2 _ _) (int_rmul_tuple 1 t a its.toArray m dd sl) ⟨ho, rfl, ⟨_, ho, rfl⟩, c2⟩
section
variable {X : Cx} {W : WX} {σ : L2.St} {U : Addr → Prop} {H : Hp} {Q : VK}
theorem PostM.val {d : D} {v : V} (h : PostM X W .v σ H U Q (.ok d)) (r : Rep X.K U H v d) : Q v H := h v H (Same.refl H) r
theorem PostM.tup {ds : List D} {vs : List V} (h : PostM X W .v σ H U Q (.ok (.tuple ds))) (hf : ∀ p, H p = none → ¬ U p) (r : Reps X.K U H vs ds) : ∀ p, H p = none → Q (.ref p) (upd H p (.tup vs)) := fun p hp =>
  h _ _ (same_new hp) (.tup (.inl ⟨hf p hp, .inl upd_same⟩) (r.mono (Kp.same (same_new hp))))
theorem PostM.lst {ds : List D} {vs : List V} (h : PostM X W .f σ H U Q (.ok (.list ds))) (hf : ∀ p, H p = none → ¬ U p) (r : Reps X.K U H vs ds) : ∀ p, H p = none → Q (.ref p) (upd H p (.lst vs)) := fun p hp =>
  h _ _ (same_new hp) ⟨p, rfl, hp, vs, upd_same, r.mono ⟨fun a o e _ => same_new hp _ _ e, fun a z => z.imp id fun e => by rw [e]; exact hp⟩⟩
/-- modes of a result: .f where it is a list or a dict, else .v -/
def Md.le : Md → D → Prop
  | .v, _ => True
  | .b, _ => True
  | .f, .list _ => True
  | .f, .dict _ => True
  | .f, _ => False
end
section
variable {X : Cx}
/-- list + list -/
def rCatL : R2 := fun x y H Q => ∃ (l b : Addr) (xs zs : List V), (x = .ref l ∧ y = .ref b) ∧ (Rd H l (.lst xs) ∧ Rd H b (.lst zs)) ∧ xs.length + zs.length ≤ sizeLine ∧ ∀ p, H p = none → Q (.ref p) (upd H p (.lst (xs ++ zs)))
theorem rd_lst {pins : List (Addr × Obj)} {s : Shared} {σ : L2.St} {H : Hp} (I : Inv X pins σ H s) {l : Addr} {xs : List V} (h : Rd H l (.lst xs)) :
    xs.length ≤ sizeLine ∧ ∃ (its : List Value) (n : Nat), Vals xs its ∧ s.heap.get? l = some { cls := .type "list", data := .seq its.toArray n } := h.ok I.hok
theorem op_catL : OpR X (binaryOp .Add) rCatL := by
  intro pins s σ H x y v u Q I rx ry h
  obtain ⟨l, b, xs, zs, ⟨rfl, rfl⟩, ⟨hH, hB⟩, hz, q⟩ := h
  cases rx
  cases ry
  obtain ⟨_, i1, n1, v1, g1⟩ := rd_lst I hH
  obtain ⟨_, i2, n2, v2, g2⟩ := rd_lst I hB
  have l1 := v1.length
  have l2 := v2.length
  refine PySem.P.add_list g1 g2 ?_ (by simp only [List.size_toArray]; omega)
  have ea : i1.toArray ++ i2.toArray = (i1 ++ i2).toArray := by simp
  rw [ea]
  exact ⟨.ref _, _, I.lnew (t' := s.toks) (v1.append v2) (by rw [List.length_append]; omega), rfl, q _ I.fresh⟩
def rAdd4 (K : PySem.W.Frag) : R2 := fun x y H Q => (∃ i j, x = .int i ∧ y = .int j ∧ Q (.int (i + j)) H) ∨ (∃ i j, x = .str i ∧ y = .str j ∧ i.length + j.length ≤ sizeLine ∧ Q (.str (i ++ j)) H) ∨ rCatA K x y H Q ∨ rCatL x y H Q
theorem op_add4 : OpR X (binaryOp .Add) (rAdd4 X.K) := OpR.or op_add (OpR.or op_add_str (OpR.or op_catA op_catL))
end
section
variable {X : Cx} {H0 : Ent} {W : WX} {a b : Expr} {fa fb : Rho → Out D} {pos : Pos}
theorem PostM.stuck' {m : Md} {σ : L2.St} {H : Hp} {U : Addr → Prop} {Q : VK} {P : Prop} (h : PostM X W m σ H U Q .stuck) : P := h.elim
/-- what a list's place wants, in mode v -/
theorem PostM.lstV {σ : L2.St} {H : Hp} {U : Addr → Prop} {Q : VK} {ds : List D} {vs : List V} (h : PostM X W .v σ H U Q (.ok (.list ds))) (hf : ∀ p, H p = none → ¬ U p) (r : Reps X.K U H vs ds) : ∀ p, H p = none → Q (.ref p) (upd H p (.lst vs)) := fun p hp =>
  h _ _ (same_new hp) (.lst (hf p hp) (.inl upd_same) (r.mono (Kp.same (same_new hp))))
theorem reps_nil {K : PySem.W.Frag} {U : Addr → Prop} {H : Hp} {vs : List V} {ds : List D} (r : Reps K U H vs ds) : vs = [] ↔ ds = [] := by
  cases r with
  | nil => simp
  | cons _ _ => simp
theorem de_add (ha : DE X H0 W .b a fa) (hb : DE X H0 W .b b fb) : DE X H0 W .v (.BinOp a .Add b pos) fun ρ => (fa ρ).bind fun x => (fb ρ).bind fun y => addD x y := by
  refine de_op (m := .v) op_add4 (fun σ U H v u x y Q hf r1 r2 q => ?_) ha hb
  cases x with
  | int i => cases y with
    | int j =>
      obtain rfl := r1.int
      obtain rfl := r2.int
      exact .inl ⟨i, j, rfl, rfl, q.val (.int _)⟩
    | _ => exact q.elim
  | str i => cases y with
    | str j =>
      obtain rfl := r1.str
      obtain rfl := r2.str
      simp only [addD] at q
      split at q
      · rename_i hl
        exact .inr (.inl ⟨i, j, rfl, rfl, hl, q.val (.str _)⟩)
      · exact q.elim
    | _ => exact q.elim
  | tuple xs => cases y with
    | tuple ys =>
      obtain ⟨p, vs, rfl, s1, t1⟩ := r1.tup
      obtain ⟨p2, ws, rfl, s2, t2⟩ := r2.tup
      simp only [addD] at q
      split at q
      · rename_i hl
        have tw := t1.append t2
        refine .inr (.inr (.inl ⟨p, p2, vs, ws, rfl, rfl, s1, s2, by rw [t1.length, t2.length]; exact hl, fun e => ?_, fun _ e => ?_, fun _ _ => q.tup hf tw⟩))
        · have e2 : xs = [] := (reps_nil t1).mp e
          subst e2
          rcases r2 with r2 | ⟨_, _, _, z⟩
          · exact q.val r2
          · exact z.elim
        · have e2 : ys = [] := (reps_nil t2).mp e
          subst e2
          rw [List.append_nil] at q
          rcases r1 with r1 | ⟨_, _, _, z⟩
          · exact q.val r1
          · exact z.elim
      · exact q.elim
    | _ => exact q.elim
  | list xs => cases y with
    | list ys =>
      obtain ⟨p, vs, rfl, s1, t1⟩ := r1.lst
      obtain ⟨p2, ws, rfl, s2, t2⟩ := r2.lst
      simp only [addD] at q
      split at q
      · rename_i hl
        exact .inr (.inr (.inr ⟨p, p2, vs, ws, ⟨rfl, rfl⟩, ⟨s1, s2⟩, by rw [t1.length, t2.length]; exact hl, q.lstV hf (t1.append t2)⟩))
      · exact q.elim
    | _ => exact q.elim
  | _ => cases y <;> exact q.elim
theorem de_sub (ha : DE X H0 W .b a fa) (hb : DE X H0 W .b b fb) : DE X H0 W .v (.BinOp a .Sub b pos) fun ρ => (fa ρ).bind fun x => (fb ρ).bind fun y => subD x y := by
  refine de_op (m := .v) op_sub (fun σ U H v u x y Q hf r1 r2 q => ?_) ha hb
  cases x with
  | int i => cases y with
    | int j =>
      obtain rfl := r1.int
      obtain rfl := r2.int
      exact ⟨i, j, rfl, rfl, q.val (.int _)⟩
    | _ => exact q.elim
  | _ => cases y <;> exact q.elim
theorem de_mod (ha : DE X H0 W .b a fa) (hb : DE X H0 W .b b fb) : DE X H0 W .v (.BinOp a .Mod b pos) fun ρ => (fa ρ).bind fun x => (fb ρ).bind fun y => modD x y := by
  refine de_op (m := .v) op_modN (fun σ U H v u x y Q hf r1 r2 q => ?_) ha hb
  cases x with
  | int i => cases y with
    | int j =>
      obtain rfl := r1.int
      obtain rfl := r2.int
      simp only [modD] at q
      split at q
      · rename_i hj
        exact ⟨i, j, rfl, rfl, hj, q.val (.int _)⟩
      · exact q.elim
    | _ => exact q.elim
  | _ => cases y <;> exact q.elim
theorem de_pow (ha : DE X H0 W .b a fa) (hb : DE X H0 W .b b fb) : DE X H0 W .v (.BinOp a .Pow b pos) fun ρ => (fa ρ).bind fun x => (fb ρ).bind fun y => powD x y := by
  refine de_op (m := .v) op_pow (fun σ U H v u x y Q hf r1 r2 q => ?_) ha hb
  cases x with
  | int i => cases y with
    | int j =>
      obtain rfl := r1.int
      obtain rfl := r2.int
      simp only [powD] at q
      split at q
      · rename_i hj
        exact ⟨i, j, rfl, rfl, hj, q.val (.int _)⟩
      · exact q.elim
    | _ => exact q.elim
  | _ => cases y <;> exact q.elim
theorem de_fdiv (ha : DE X H0 W .b a fa) (hb : DE X H0 W .b b fb) : DE X H0 W .v (.BinOp a .FloorDiv b pos) fun ρ => (fa ρ).bind fun x => (fb ρ).bind fun y => fdivD x y := by
  refine de_op (m := .v) (OpR.or op_fdivN op_fdivW) (fun σ U H v u x y Q hf r1 r2 q => ?_) ha hb
  cases x with
  | int i => cases y with
    | int j =>
      obtain rfl := r1.int
      obtain rfl := r2.int
      simp only [fdivD] at q
      split at q
      · rename_i hj
        exact .inl ⟨i, j, rfl, rfl, hj, q.val (.int _)⟩
      · split at q
        · rename_i hj
          exact .inr ⟨i, j, rfl, rfl, hj, q.val (.int _)⟩
        · exact q.elim
    | _ => exact q.elim
  | _ => cases y <;> exact q.elim
theorem de_mul (ha : DE X H0 W .b a fa) (hb : DE X H0 W .b b fb) : DE X H0 W .v (.BinOp a .Mult b pos) fun ρ => (fa ρ).bind fun x => (fb ρ).bind fun y => mulD x y := by
  refine de_op (m := .v) (OpR.or op_mul (OpR.or op_repT op_once)) (fun σ U H v u x y Q hf r1 r2 q => ?_) ha hb
  cases x with
  | int i => cases y with
    | int j =>
      obtain rfl := r1.int
      obtain rfl := r2.int
      simp only [mulD] at q
      split at q
      · rename_i hj
        refine .inl ⟨i, j, rfl, rfl, ?_, q.val (.int _)⟩
        simp only [smallI, Bool.or_eq_true, Bool.and_eq_true, decide_eq_true_eq] at hj
        exact hj
      · exact q.elim
    | _ => exact q.elim
  | tuple xs => cases y with
    | int k =>
      obtain ⟨p, vs, rfl, s1, t1⟩ := r1.tup
      obtain rfl := r2.int
      simp only [mulD] at q
      split at q
      · rename_i hk
        refine .inr (.inl ⟨p, k, vs, rfl, rfl, s1, fun e => hk.1 ((reps_nil t1).mp e), hk.2.1, hk.2.2.1, by rw [t1.length]; exact hk.2.2.2, q.tup hf ?_⟩)
        generalize k.toNat = n
        induction n with
        | zero => exact .nil
        | succ n ih =>
          rw [List.replicate_succ, List.replicate_succ, List.flatten_cons, List.flatten_cons]
          exact t1.append ih
      · split at q
        · rename_i hk
          subst hk
          refine .inr (.inr ⟨p, vs, rfl, rfl, s1, ?_⟩)
          rcases r1 with r1 | ⟨_, _, _, z⟩
          · exact q.val r1
          · exact z.elim
        · exact q.elim
    | _ => exact q.elim
  | _ => cases y <;> exact q.elim
def negD : D → Out D
  | .int i => .ok (.int (-i))
  | _ => .stuck
theorem de_neg (ha : DE X H0 W .b a fa) : DE X H0 W .v (.UnaryOp .USub a pos) fun ρ => (fa ρ).bind negD := by
  refine de_un (m := .v) un_neg (fun σ U H v x Q hf r1 q => ?_) ha
  cases x with
  | int i =>
    obtain rfl := r1.int
    exact ⟨i, rfl, q.val (.int _)⟩
  | _ => exact q.elim
end
end Mp
namespace Mp
open PySem PySem.Spec PyProof.Rows L2
/-! ## data without dicts, not too deep -/
mutual
def fitD : Nat → D → Bool
  | _, .none => true
  | _, .bool _ => true
  | _, .int _ => true
  | _, .str _ => true
  | n, .list xs => match n with
    | 0 => false
    | m + 1 => fitAll m xs
  | n, .tuple xs => match n with
    | 0 => false
    | m + 1 => fitAll m xs
  | _, .dict _ => false
def fitAll : Nat → List D → Bool
  | _, [] => true
  | n, x :: xs => fitD n x && fitAll n xs
end
mutual
theorem fitD_ok : ∀ (d : D) (n : Nat), fitD n d = true → d.plain = true ∧ d.depth ≤ n
  | .none, _, _ => ⟨rfl, Nat.zero_le _⟩
  | .bool _, _, _ => ⟨rfl, Nat.zero_le _⟩
  | .int _, _, _ => ⟨rfl, Nat.zero_le _⟩
  | .str _, _, _ => ⟨rfl, Nat.zero_le _⟩
  | .list xs, n, h => by
    cases n with
    | zero => simp [fitD] at h
    | succ m =>
      obtain ⟨h1, h2⟩ := fitAll_ok xs m (by simpa [fitD] using h)
      exact ⟨by simpa [PyData.plain] using h1, by simpa [PyData.depth] using h2⟩
  | .tuple xs, n, h => by
    cases n with
    | zero => simp [fitD] at h
    | succ m =>
      obtain ⟨h1, h2⟩ := fitAll_ok xs m (by simpa [fitD] using h)
      exact ⟨by simpa [PyData.plain] using h1, by simpa [PyData.depth] using h2⟩
  | .dict _, n, h => by simp [fitD] at h
theorem fitAll_ok : ∀ (ds : List D) (n : Nat), fitAll n ds = true → PyData.plainAll ds = true ∧ PyData.depthAll ds ≤ n
  | [], _, _ => ⟨rfl, Nat.zero_le _⟩
  | x :: xs, n, h => by
    simp only [fitAll, Bool.and_eq_true] at h
    obtain ⟨h1, h2⟩ := fitD_ok x n h.1
    obtain ⟨h3, h4⟩ := fitAll_ok xs n h.2
    exact ⟨by simp [PyData.plainAll, h1, h3], by simp only [PyData.depthAll]; omega⟩
end
section
variable {K : PySem.W.Frag} {U : Addr → Prop} {H : Hp}
mutual
theorem Rep.dp : ∀ {v : V} {d : D}, Rep K U H v d → d.plain = true → Dp K H v d
  | _, _, .non, _ => .non
  | _, _, .bl b, _ => .bl b
  | _, _, .int i, _ => .int i
  | _, _, .str x, _ => .str x
  | _, _, .tup h r, p => .tup (h.elim (fun q => .inl q.2) fun q => q.sq H) (Reps.dp r (by simpa [PyData.plain] using p))
  | _, _, .lst _ h r, p => .lst (.inl h) (Reps.dp r (by simpa [PyData.plain] using p))
  | _, _, .dct _ _ _, p => by simp [PyData.plain] at p
theorem Reps.dp : ∀ {vs : List V} {ds : List D}, Reps K U H vs ds → PyData.plainAll ds = true → DpAll K H vs ds
  | _, _, .nil, _ => .nil
  | _, _, .cons r t, p => by
    simp only [PyData.plainAll, Bool.and_eq_true] at p
    exact .cons (Rep.dp r p.1) (Reps.dp t p.2)
end
theorem BRep.dp {v : V} {d : D} (h : BRep K U H v d) (p : d.plain = true) : Dp K H v d := h.rep0.dp p
end
/-! ## comparisons -/
/-- how deep data are compared -/
abbrev dpt : Nat := 60
def eqD (x y : D) : Out D := if fitD dpt x = true ∧ fitD dpt y = true then .ok (.bool (PyData.eqv x y)) else .stuck
def neD (x y : D) : Out D := if fitD dpt x = true ∧ fitD dpt y = true then .ok (.bool (!PyData.eqv x y)) else .stuck
def noneD : D → Bool
  | .none => true
  | _ => false
def ltG (f : D → D → Bool) (x y : D) : Out D := if fitD dpt x = true ∧ fitD dpt y = true ∧ PySem.W.alike x y = true ∧ noneD x = false then .ok (.bool (f x y)) else .stuck
def ltD (x y : D) : Out D := match x, y with
  | .int i, .int j => .ok (.bool (decide (i < j)))
  | x, y => ltG PySem.W.dataLt x y
def gtD (x y : D) : Out D := match x, y with
  | .int i, .int j => .ok (.bool (decide (j < i)))
  | x, y => ltG (fun x y => PySem.W.dataLt y x) x y
def leD (x y : D) : Out D := match x, y with
  | .int i, .int j => .ok (.bool (decide (i ≤ j)))
  | x, y => ltG (fun x y => !PySem.W.dataLt y x) x y
def geD (x y : D) : Out D := match x, y with
  | .int i, .int j => .ok (.bool (decide (j ≤ i)))
  | x, y => ltG (fun x y => !PySem.W.dataLt x y) x y
def isND (x y : D) : Out D := match y with
  | .none => .ok (.bool (noneD x))
  | _ => .stuck
def notND (x y : D) : Out D := match y with
  | .none => .ok (.bool (!noneD x))
  | _ => .stuck
section
variable {X : Cx}
def rDat (K : PySem.W.Frag) (g : D → D → Bool) (C : D → D → Prop) : R2 := fun x y H Q => ∃ d e, (Dp K H x d ∧ Dp K H y e) ∧ (fitD dpt d = true ∧ fitD dpt e = true) ∧ C d e ∧ Q (.bl (g d e)) H
theorem op_dat {f : Value → Value → Sem Value} {g : D → D → Bool} {C : D → D → Prop} (hu : X.A.units + 64 < cLine)
    (rule : ∀ (s : Shared) (v u : Value) (d e : D) (as bs : List Addr) (Q : Value → Shared → Prop), Reads s.heap v d as → Reads s.heap u e bs → d.plain = true → e.plain = true → X.A.units + 1 + min d.depth e.depth < cLine → C d e → Q (.bool (g d e)) s → wpAny (model X.prog X.w) X.A (f v u) Q X.xe s) :
    OpR X f (rDat X.K g C) := by
  intro pins s σ H x y v u Q I rx ry h
  obtain ⟨d, e, ⟨hd, he⟩, ⟨fd, fe⟩, hC, q⟩ := h
  obtain ⟨as, r1⟩ := Dp.reads I d x v hd rx
  obtain ⟨bs, r2⟩ := Dp.reads I e y u he ry
  obtain ⟨p1, p2⟩ := fitD_ok d dpt fd
  obtain ⟨p3, p4⟩ := fitD_ok e dpt fe
  exact rule s v u d e as bs _ r1 r2 p1 p3 (by have : dpt = 60 := rfl; omega) hC ⟨.bl _, H, I, rfl, q⟩
theorem op_eqP (hu : X.A.units + 64 < cLine) : OpR X (compareOp .Eq) (rDat X.K PyData.eqv fun _ _ => True) :=
  op_dat hu fun s v u d e as bs Q r1 r2 p1 p2 hd _ q => PySem.SeqAt.eq_plain r1 r2 p1 p2 (by omega) q
theorem op_neP (hu : X.A.units + 64 < cLine) : OpR X (compareOp .NotEq) (rDat X.K (fun x y => !PyData.eqv x y) fun _ _ => True) :=
  op_dat hu fun s v u d e as bs Q r1 r2 p1 p2 hd _ q => PySem.SeqAt.ne_plain r1 r2 p1 p2 (by omega) q
def Ord2 (x y : D) : Prop := PySem.W.alike x y = true ∧ x ≠ .none
theorem op_ltP (hu : X.A.units + 64 < cLine) : OpR X (compareOp .Lt) (rDat X.K PySem.W.dataLt Ord2) :=
  op_dat hu fun s v u d e as bs Q r1 r2 p1 p2 hd c q => PySem.W.lt_data r1 r2 c.1 c.2 (by omega) q
theorem op_gtP (hu : X.A.units + 64 < cLine) : OpR X (compareOp .Gt) (rDat X.K (fun x y => PySem.W.dataLt y x) Ord2) :=
  op_dat hu fun s v u d e as bs Q r1 r2 p1 p2 hd c q => PySem.W.gt_data r1 r2 c.1 c.2 (by omega) q
theorem op_leP (hu : X.A.units + 64 < cLine) : OpR X (compareOp .LtE) (rDat X.K (fun x y => !PySem.W.dataLt y x) Ord2) :=
  op_dat hu fun s v u d e as bs Q r1 r2 p1 p2 hd c q => PySem.W.le_data r1 r2 c.1 c.2 (by omega) q
theorem op_geP (hu : X.A.units + 64 < cLine) : OpR X (compareOp .GtE) (rDat X.K (fun x y => !PySem.W.dataLt x y) Ord2) :=
  op_dat hu fun s v u d e as bs Q r1 r2 p1 p2 hd c q => PySem.W.ge_data r1 r2 c.1 c.2 (by omega) q
end
/-- an operator's row: its reading follows from what the data's function says -/
def Row2 (X : Cx) (W : WX) (m : Md) (r : R2) (g : D → D → Out D) : Prop :=
  ∀ σ U H v u x y Q, (∀ p, H p = none → ¬ U p) → BRep X.K U H v x → BRep X.K U H u y → PostM X W m σ H U Q (g x y) → r v u H Q
section
variable {X : Cx} {W : WX}
theorem row_dat {g : D → D → Bool} {C : D → D → Prop} {f : D → D → Out D} (h : ∀ x y d, f x y = .ok d → fitD dpt x = true ∧ fitD dpt y = true ∧ C x y ∧ d = .bool (g x y)) (hn : ∀ x y, f x y = .stuck ∨ ∃ d, f x y = .ok d) :
    Row2 X W .v (rDat X.K g C) f := fun σ U H v u x y Q hf r1 r2 q => by
  rcases hn x y with e | ⟨d, e⟩
  · rw [e] at q
    exact q.elim
  · rw [e] at q
    obtain ⟨f1, f2, c, rfl⟩ := h x y d e
    exact ⟨x, y, ⟨r1.dp (fitD_ok x _ f1).1, r2.dp (fitD_ok y _ f2).1⟩, ⟨f1, f2⟩, c, q.val (.bl _)⟩
theorem row_eq : Row2 X W .v (rDat X.K PyData.eqv fun _ _ => True) eqD := row_dat (fun x y d e => by
  unfold eqD at e
  split at e
  · rename_i h
    cases e
    exact ⟨h.1, h.2, trivial, rfl⟩
  · cases e) fun x y => by
  unfold eqD
  split
  · exact .inr ⟨_, rfl⟩
  · exact .inl rfl
theorem row_ne : Row2 X W .v (rDat X.K (fun x y => !PyData.eqv x y) fun _ _ => True) neD := row_dat (fun x y d e => by
  unfold neD at e
  split at e
  · rename_i h
    cases e
    exact ⟨h.1, h.2, trivial, rfl⟩
  · cases e) fun x y => by
  unfold neD
  split
  · exact .inr ⟨_, rfl⟩
  · exact .inl rfl
theorem row_ltG {g : D → D → Bool} : Row2 X W .v (rDat X.K g Ord2) (ltG g) := row_dat (fun x y d e => by
  unfold ltG at e
  split at e
  · rename_i h
    obtain ⟨h1, h2, h3, h4⟩ := h
    injection e with e
    refine ⟨h1, h2, ⟨h3, fun z => ?_⟩, e.symm⟩
    rw [z] at h4
    cases h4
  · cases e) fun x y => by
  unfold ltG
  split
  · exact .inr ⟨_, rfl⟩
  · exact .inl rfl
/-- with the ints' own rule -/
theorem row_int {g : D → D → Bool} {k : Int → Int → Bool} {f : D → D → Out D} {r : R2} (hi : ∀ i j, f (.int i) (.int j) = .ok (.bool (k i j))) (ho : ∀ x y, (∀ i j, ¬ (x = .int i ∧ y = .int j)) → f x y = ltG g x y) (hr : Row2 X W .v r (ltG g)) :
    Row2 X W .v (fun x y H Q => rI0 (fun i j => .bl (k i j)) x y H Q ∨ r x y H Q) f := fun σ U H v u x y Q hf r1 r2 q => by
  by_cases h : ∃ i j, x = .int i ∧ y = .int j
  · obtain ⟨i, j, rfl, rfl⟩ := h
    rw [hi] at q
    obtain rfl := r1.int
    obtain rfl := r2.int
    exact .inl ⟨i, j, rfl, rfl, q.val (.bl _)⟩
  · rw [ho x y fun i j z => h ⟨i, j, z⟩] at q
    exact .inr (hr σ U H v u x y Q hf r1 r2 q)
theorem row_lt : Row2 X W .v (fun x y H Q => rI0 (fun i j => .bl (decide (i < j))) x y H Q ∨ rDat X.K PySem.W.dataLt Ord2 x y H Q) ltD :=
  row_int (fun _ _ => rfl) (fun x y h => by unfold ltD; split <;> first | exact absurd ⟨rfl, rfl⟩ (h _ _) | rfl) row_ltG
theorem row_gt : Row2 X W .v (fun x y H Q => rI0 (fun i j => .bl (decide (j < i))) x y H Q ∨ rDat X.K (fun x y => PySem.W.dataLt y x) Ord2 x y H Q) gtD :=
  row_int (fun _ _ => rfl) (fun x y h => by unfold gtD; split <;> first | exact absurd ⟨rfl, rfl⟩ (h _ _) | rfl) row_ltG
theorem row_le : Row2 X W .v (fun x y H Q => rI0 (fun i j => .bl (decide (i ≤ j))) x y H Q ∨ rDat X.K (fun x y => !PySem.W.dataLt y x) Ord2 x y H Q) leD :=
  row_int (fun _ _ => rfl) (fun x y h => by unfold leD; split <;> first | exact absurd ⟨rfl, rfl⟩ (h _ _) | rfl) row_ltG
theorem row_ge : Row2 X W .v (fun x y H Q => rI0 (fun i j => .bl (decide (j ≤ i))) x y H Q ∨ rDat X.K (fun x y => !PySem.W.dataLt x y) Ord2 x y H Q) geD :=
  row_int (fun _ _ => rfl) (fun x y h => by unfold geD; split <;> first | exact absurd ⟨rfl, rfl⟩ (h _ _) | rfl) row_ltG
theorem brep_non {K : PySem.W.Frag} {U : Addr → Prop} {H : Hp} {v : V} {x : D} (r : BRep K U H v x) : decide (v = .non) = (noneD x) := by
  rcases r with r | ⟨a, rfl, _, o⟩
  · cases r <;> simp [noneD]
  · cases x <;> first | rfl | exact o.elim
theorem row_isN : Row2 X W .v (fun x y H Q => y = .non ∧ Q (.bl (decide (x = .non))) H) isND := fun σ U H v u x y Q hf r1 r2 q => by
  cases y with
  | none =>
    refine ⟨r2.non, ?_⟩
    rw [brep_non r1]
    exact q.val (.bl _)
  | _ => exact q.elim
theorem row_notN : Row2 X W .v (fun x y H Q => y = .non ∧ Q (.bl (!decide (x = .non))) H) notND := fun σ U H v u x y Q hf r1 r2 q => by
  cases y with
  | none =>
    refine ⟨r2.non, ?_⟩
    rw [brep_non r1]
    exact q.val (.bl _)
  | _ => exact q.elim
end
end Mp
namespace Mp
open PySem PySem.Spec PyProof.Rows L2
/-! ## dicts by data -/
def keyOf : D → Option Key
  | .int i => some (.inl i)
  | .str x => some (.inr x)
  | _ => none
def lookE (es : List (D × D)) (k : Key) : Option D := (es.find? fun p => decide (keyOf p.1 = some k)).map (·.2)
def putE (es : List (D × D)) (k : Key) (v : D) : List (D × D) :=
  if (es.any fun p => decide (keyOf p.1 = some k)) = true then es.map (fun p => if keyOf p.1 = some k then (p.1, v) else p) else es ++ [(keyD k, v)]
theorem keyOf_keyD (k : Key) : keyOf (keyD k) = some k := by cases k <;> rfl
theorem keyOf_brep {K : PySem.W.Frag} {U : Addr → Prop} {H : Hp} {v : V} {d : D} {k : Key} (e : keyOf d = some k) (r : BRep K U H v d) : v = kV k ∧ d = keyD k := by
  cases d with
  | int i =>
    obtain rfl := r.int
    cases e
    exact ⟨rfl, rfl⟩
  | str i =>
    obtain rfl := r.str
    cases e
    exact ⟨rfl, rfl⟩
  | _ => cases e
section
variable {K : PySem.W.Frag} {U : Addr → Prop} {H : Hp}
theorem RepK.look : ∀ {kvs : List (Key × V)} {es : List (D × D)}, RepK K U H kvs es → ∀ k, (lookE es k = none ∧ valV kvs k = none) ∨ ∃ v d, lookE es k = some d ∧ valV kvs k = some v ∧ Rep K U H v d
  | _, _, .nil, _ => .inl ⟨rfl, rfl⟩
  | _, _, .cons (k := k0) (v := v0) (d := d0) r t, k => by
    by_cases h : k0 = k
    · subst h
      exact .inr ⟨v0, d0, by simp [lookE, keyOf_keyD], valV_pos rfl, r⟩
    · have h2 : ¬ (keyOf (keyD k0) = some k) := by rw [keyOf_keyD]; exact fun z => h (Option.some.inj z)
      have e1 : ∀ es, lookE ((keyD k0, d0) :: es) k = lookE es k := fun es => by simp [lookE, List.find?_cons, h2]
      have e2 : ∀ kvs, valV ((k0, v0) :: kvs) k = valV kvs k := fun kvs => valV_neg h
      rw [e1, e2]
      exact RepK.look t k
theorem RepK.any : ∀ {kvs : List (Key × V)} {es : List (D × D)}, RepK K U H kvs es → ∀ k, (es.any fun p => decide (keyOf p.1 = some k)) = kvs.any fun p => decide (p.1 = k)
  | _, _, .nil, _ => rfl
  | _, _, .cons (k := k0) (v := v0) (d := d0) r t, k => by
    rw [List.any_cons, List.any_cons, RepK.any t k, keyOf_keyD]
    simp
theorem RepK.map {k : Key} {v : V} {d : D} (r : Rep K U H v d) : ∀ {kvs : List (Key × V)} {es : List (D × D)}, RepK K U H kvs es → RepK K U H (kvs.map fun p => if p.1 = k then (p.1, v) else p) (es.map fun p => if keyOf p.1 = some k then (p.1, d) else p)
  | _, _, .nil => .nil
  | _, _, .cons (k := k0) (v := v0) (d := d0) r0 t => by
    rw [List.map_cons, List.map_cons, keyOf_keyD]
    by_cases h : k0 = k
    · subst h
      rw [if_pos rfl, if_pos rfl]
      exact .cons r (RepK.map r t)
    · rw [if_neg h, if_neg fun z => h (Option.some.inj z)]
      exact .cons r0 (RepK.map r t)
theorem RepK.append : ∀ {kvs ws : List (Key × V)} {es fs : List (D × D)}, RepK K U H kvs es → RepK K U H ws fs → RepK K U H (kvs ++ ws) (es ++ fs)
  | _, _, _, _, .nil, s => s
  | _, _, _, _, .cons r t, s => .cons r (RepK.append t s)
theorem RepK.put {k : Key} {v : V} {d : D} (r : Rep K U H v d) {kvs : List (Key × V)} {es : List (D × D)} (h : RepK K U H kvs es) : RepK K U H (putK kvs k v) (putE es k d) := by
  unfold putK putE
  rw [h.any k]
  split
  · exact h.map r
  · exact h.append (.cons r .nil)
theorem putE_length (es : List (D × D)) (k : Key) (v : D) : (putE es k v).length ≤ es.length + 1 := by
  unfold putE
  split <;> simp
end
/-! ## in, not in -/
def inB (x y : D) : Option Bool := match y with
  | .str z => match x with
    | .str t => some (match t.cps.toList with
      | [c] => decide (c ∈ z.cps.toList)
      | _ => !(Builtin.Str.occurrences z t 0 z.length 1).isEmpty)
    | _ => none
  | .list ys => if fitD dpt x = true ∧ fitAll dpt ys = true then some (ys.any fun y => PyData.eqv y x) else none
  | .tuple ys => if fitD dpt x = true ∧ fitAll dpt ys = true then some (ys.any fun y => PyData.eqv y x) else none
  | .dict es => match keyOf x with
    | some k => some (lookE es k).isSome
    | none => none
  | _ => none
def inD (x y : D) : Out D := match inB x y with
  | some b => .ok (.bool b)
  | none => .stuck
def notInD (x y : D) : Out D := match inB x y with
  | some b => .ok (.bool (!b))
  | none => .stuck
section
variable {X : Cx}
def sg (n : Bool) (b : Bool) : Bool := if n = true then !b else b
def rInS (n : Bool) : R2 := fun x y H Q => ∃ t z b, x = .str t ∧ y = .str z ∧ inB (.str t) (.str z) = some b ∧ Q (.bl (sg n b)) H
def rInL (K : PySem.W.Frag) (n : Bool) : R2 := fun x y H Q => ∃ d ys, Dp K H x d ∧ (Dp K H y (.list ys) ∨ Dp K H y (.tuple ys)) ∧ (fitD dpt d = true ∧ fitAll dpt ys = true) ∧ Q (.bl (sg n (ys.any fun y => PyData.eqv y d))) H
def rInK (n : Bool) : R2 := fun x y H Q => ∃ (a : Addr) (kvs : List (Key × V)) (k : Key), y = .ref a ∧ Rd H a (.dK kvs) ∧ x = kV k ∧ Q (.bl (sg n (valV kvs k).isSome)) H
theorem str_one {t : Str} {c : Nat} (e : t.cps.toList = [c]) : t = ⟨#[c]⟩ := by
  cases t with
  | mk a =>
    have : a = #[c] := Array.toList_inj.mp (by simpa using e)
    rw [this]
theorem op_inS : OpR X (compareOp .In) (rInS false) := by
  intro pins s σ H x y v u Q I rx ry h
  obtain ⟨t, z, b, rfl, rfl, e, q⟩ := h
  simp only [inB, Option.some.injEq] at e
  split at e
  · rename_i c hc
    obtain rfl := str_one hc
    exact op_in_sign pins s σ H _ _ v u Q I rx ry ⟨c, z, rfl, rfl, by rw [e]; exact q⟩
  · exact op_in_str pins s σ H _ _ v u Q I rx ry ⟨t, z, rfl, rfl, by rw [e]; exact q⟩
theorem op_notInS : OpR X (compareOp .NotIn) (rInS true) := by
  intro pins s σ H x y v u Q I rx ry h
  obtain ⟨t, z, b, rfl, rfl, e, q⟩ := h
  simp only [inB, Option.some.injEq] at e
  split at e
  · rename_i c hc
    obtain rfl := str_one hc
    exact op_notIn_sign pins s σ H _ _ v u Q I rx ry ⟨c, z, rfl, rfl, by rw [e]; exact q⟩
  · exact op_notIn_str pins s σ H _ _ v u Q I rx ry ⟨t, z, rfl, rfl, by rw [e]; exact q⟩
theorem op_inL (hu : X.A.units + 64 < cLine) : OpR X (compareOp .In) (rInL X.K false) := by
  intro pins s σ H x y v u Q I rx ry h
  obtain ⟨d, ys, hd, hy, ⟨f1, f2⟩, q⟩ := h
  obtain ⟨as, r1⟩ := Dp.reads I d x v hd rx
  obtain ⟨p1, p2⟩ := fitD_ok d _ f1
  obtain ⟨p3, p4⟩ := fitAll_ok ys _ f2
  have fin : EP X pins σ Q (.bool (ys.any fun y => PyData.eqv y d)) s := ⟨.bl _, H, I, rfl, q⟩
  have hz : X.A.units + 1 + min (PyData.depthAll ys) d.depth < cLine := by have : dpt = 60 := rfl; omega
  rcases hy with hy | hy
  · obtain ⟨bs, r2⟩ := Dp.reads I _ y u hy ry
    exact PySem.SeqAt.in_list_data r2 r1 p3 p1 hz fin
  · obtain ⟨bs, r2⟩ := Dp.reads I _ y u hy ry
    exact PySem.SeqAt.in_tuple_data r2 r1 p3 p1 hz fin
theorem op_notInL (hu : X.A.units + 64 < cLine) : OpR X (compareOp .NotIn) (rInL X.K true) := by
  intro pins s σ H x y v u Q I rx ry h
  obtain ⟨d, ys, hd, hy, ⟨f1, f2⟩, q⟩ := h
  obtain ⟨as, r1⟩ := Dp.reads I d x v hd rx
  obtain ⟨p1, p2⟩ := fitD_ok d _ f1
  obtain ⟨p3, p4⟩ := fitAll_ok ys _ f2
  have fin : EP X pins σ Q (.bool (!ys.any fun y => PyData.eqv y d)) s := ⟨.bl _, H, I, rfl, q⟩
  have hz : X.A.units + 1 + min (PyData.depthAll ys) d.depth < cLine := by have : dpt = 60 := rfl; omega
  rcases hy with hy | hy
  · obtain ⟨bs, r2⟩ := Dp.reads I _ y u hy ry
    exact PySem.SeqAt.notIn_list_data r2 r1 p3 p1 hz fin
  · obtain ⟨bs, r2⟩ := Dp.reads I _ y u hy ry
    exact PySem.SeqAt.notIn_tuple_data r2 r1 p3 p1 hz fin
theorem op_inK (hu : X.A.units + 64 < cLine) : OpR X (compareOp .In) (rInK false) := by
  intro pins s σ H x y v u Q I rx ry h
  obtain ⟨a, kvs, k, rfl, hd, rfl, q⟩ := h
  cases (show u = Value.ref a from ry)
  exact d_in (A := X.A) (by omega) I (.inl ⟨kvs, k, hd, rfl, rfl⟩) rx fun s3 I3 => ⟨.bl _, H, I3, rfl, q⟩
theorem op_notInK (hu : X.A.units + 64 < cLine) : OpR X (compareOp .NotIn) (rInK true) := by
  intro pins s σ H x y v u Q I rx ry h
  obtain ⟨a, kvs, k, rfl, hd, rfl, q⟩ := h
  cases (show u = Value.ref a from ry)
  exact d_notIn (A := X.A) (by omega) I (.inl ⟨kvs, k, hd, rfl, rfl⟩) rx fun s3 I3 => ⟨.bl _, H, I3, rfl, q⟩
def rIn3 (K : PySem.W.Frag) (n : Bool) : R2 := fun x y H Q => rInS n x y H Q ∨ rInL K n x y H Q ∨ rInK n x y H Q
theorem op_in3 (hu : X.A.units + 64 < cLine) : OpR X (compareOp .In) (rIn3 X.K false) := op_inS.or ((op_inL hu).or (op_inK hu))
theorem op_notIn3 (hu : X.A.units + 64 < cLine) : OpR X (compareOp .NotIn) (rIn3 X.K true) := op_notInS.or ((op_notInL hu).or (op_notInK hu))
end
section
variable {X : Cx} {W : WX}
theorem row_inB (n : Bool) {f : D → D → Out D} (hf : ∀ x y, f x y = match inB x y with | some b => .ok (.bool (sg n b)) | none => .stuck) : Row2 X W .v (rIn3 X.K n) f := fun σ U H v u x y Q hn r1 r2 q => by
  rw [hf x y] at q
  cases e : inB x y with
  | none =>
    rw [e] at q
    exact q.elim
  | some b =>
    rw [e] at q
    have q := q.val (.bl (sg n b))
    cases y with
    | str z =>
      obtain rfl := r2.str
      cases x with
      | str t =>
        obtain rfl := r1.str
        exact .inl ⟨t, z, b, rfl, rfl, e, q⟩
      | _ => cases e
    | list ys =>
      simp only [inB] at e
      split at e
      · rename_i h
        cases e
        exact .inr (.inl ⟨x, ys, r1.dp (fitD_ok x _ h.1).1, .inl (r2.dp (by simpa [PyData.plain] using (fitAll_ok ys _ h.2).1)), h, q⟩)
      · cases e
    | tuple ys =>
      simp only [inB] at e
      split at e
      · rename_i h
        cases e
        exact .inr (.inl ⟨x, ys, r1.dp (fitD_ok x _ h.1).1, .inr (r2.dp (by simpa [PyData.plain] using (fitAll_ok ys _ h.2).1)), h, q⟩)
      · cases e
    | dict es =>
      simp only [inB] at e
      split at e
      · rename_i k hk
        cases e
        obtain ⟨a, kvs, rfl, hd, rk⟩ := r2.dct
        obtain ⟨rfl, rfl⟩ := keyOf_brep hk r1
        refine .inr (.inr ⟨a, kvs, k, rfl, hd, rfl, ?_⟩)
        have ee : (valV kvs k).isSome = (lookE es k).isSome := by
          rcases rk.look k with ⟨h1, h2⟩ | ⟨w, d, h1, h2, _⟩
          · rw [h1, h2] <;> rfl
          · rw [h1, h2] <;> rfl
        rw [ee]
        exact q
      · cases e
    | _ => cases e
theorem row_in : Row2 X W .v (rIn3 X.K false) inD := row_inB false fun _ _ => rfl
theorem row_notIn : Row2 X W .v (rIn3 X.K true) notInD := row_inB true fun _ _ => rfl
end
/-! ## subscripts -/
def idxD (x i : D) : Out D := match x, i with
  | .list xs, .int k => match atI xs k with
    | some d => .ok d
    | none => .stuck
  | .tuple xs, .int k => match atI xs k with
    | some d => .ok d
    | none => .stuck
  | .str z, .int k => if z.length ≤ sizeLine then match atI z.cps.toList k with
    | some c => .ok (.str ⟨#[c]⟩)
    | none => .stuck
    else .stuck
  | .dict es, k => match keyOf k with
    | some k => match lookE es k with
      | some d => .ok d
      | none => .stuck
    | none => .stuck
  | _, _ => .stuck
def rIxK : R2 := fun x y H Q => ∃ (a : Addr) (kvs : List (Key × V)) (k : Key) (v : V), x = .ref a ∧ Rd H a (.dK kvs) ∧ y = kV k ∧ valV kvs k = some v ∧ Q v H
section
variable {X : Cx}
theorem ix_dK (hu : X.A.units + 64 < cLine) : IxR X rIxK := by
  intro value slice pins s σ H x y v u Q I rx ry h hs
  obtain ⟨a, kvs, k, z, rfl, hd, rfl, hl, q⟩ := h
  cases (show v = Value.ref a from rx)
  have g : DGet H a (kV k) (some z) := .inl ⟨kvs, k, hd, rfl, hl.symm⟩
  exact tail_any (dict_typeIs I g) PySem.F.slot_dict_getitem.lookup (d_getItem (A := X.A) (by omega) I g ry fun w' s3 I3 rw' => ⟨z, H, I3, rw', q⟩) hs
def rIx4 (K : PySem.W.Frag) : R2 := fun x y H Q => rIx K x y H Q ∨ rIxK x y H Q
theorem ix_4 (hu : X.A.units + 64 < cLine) : IxR X (rIx4 X.K) := IxR.or ix_seq (ix_dK hu)
theorem atI_reps {K : PySem.W.Frag} {U : Addr → Prop} {H : Hp} {vs : List V} {ds : List D} (r : Reps K U H vs ds) {k : Int} {d : D} (h : atI ds k = some d) : ∃ v, atI vs k = some v ∧ Rep K U H v d := by
  unfold atI at h ⊢
  rw [r.length]
  cases e : ixN ds.length k with
  | none => rw [e] at h; cases h
  | some j =>
    rw [e] at h
    exact r.get h
end
theorem row_idx {X : Cx} {W : WX} : Row2 X W .v (rIx4 X.K) idxD := fun σ U H v u x y Q hf r1 r2 q => by
  cases x with
  | list xs => cases y with
    | int k =>
      simp only [idxD] at q
      obtain ⟨a, vs, rfl, h1, t1⟩ := r1.lst
      obtain rfl := r2.int
      split at q
      · rename_i d hd
        obtain ⟨w, hw, rw'⟩ := atI_reps t1 hd
        exact .inl (.inl ⟨a, vs, k, w, rfl, rfl, .inl h1, hw, q.val rw'⟩)
      · exact q.elim
    | _ => exact q.elim
  | tuple xs => cases y with
    | int k =>
      simp only [idxD] at q
      obtain ⟨a, vs, rfl, h1, t1⟩ := r1.tup
      obtain rfl := r2.int
      split at q
      · rename_i d hd
        obtain ⟨w, hw, rw'⟩ := atI_reps t1 hd
        exact .inl (.inr (.inl ⟨a, vs, k, w, rfl, rfl, h1, hw, q.val rw'⟩))
      · exact q.elim
    | _ => exact q.elim
  | str z => cases y with
    | int k =>
      simp only [idxD] at q
      obtain rfl := r1.str
      obtain rfl := r2.int
      split at q
      · rename_i hz
        split at q
        · rename_i c hc
          exact .inl (.inr (.inr ⟨z, k, c, rfl, rfl, hz, hc, q.val (.str _)⟩))
        · exact q.elim
      · exact q.elim
    | _ => exact q.elim
  | dict es =>
    simp only [idxD] at q
    split at q
    · rename_i k hk
      split at q
      · rename_i d hd
        obtain ⟨a, kvs, rfl, h1, rk⟩ := r1.dct
        obtain ⟨rfl, rfl⟩ := keyOf_brep hk r2
        rcases rk.look k with ⟨z1, z2⟩ | ⟨w, d', z1, z2, z3⟩
        · rw [z1] at hd; cases hd
        · rw [z1] at hd
          cases hd
          exact .inr ⟨a, kvs, k, w, rfl, h1, rfl, z2, q.val z3⟩
      · exact q.elim
    · exact q.elim
  | _ => exact q.elim
theorem de_idx {X : Cx} {H0 : Ent} {W : WX} {a b : Expr} {fa fb : Rho → Out D} {pos : Pos} (hu : X.A.units + 64 < cLine) (hs : PlainIx b) (ha : DE X H0 W .b a fa) (hb : DE X H0 W .b b fb) :
    DE X H0 W .v (.Subscript a b pos) fun ρ => (fa ρ).bind fun x => (fb ρ).bind fun y => idxD x y :=
  PE.imp (pe_ix (ix_4 hu) ha hb hs) fun _ _ _ h => tD.two row_idx h
/-! ## slices -/
def cutD {α : Type} (xs : List α) (lo hi : Option Int) : List α := (xs.drop (HT.sIx xs.length 0 lo)).take (HT.sIx xs.length xs.length hi - HT.sIx xs.length 0 lo)
def sliceD (x : D) (lo hi : Option Int) : Out D := match x with
  | .list xs => .ok (.list (cutD xs lo hi))
  | .tuple xs => .ok (.tuple (cutD xs lo hi))
  | .str z => if z.length ≤ sizeLine then .ok (.str (cutS z lo hi)) else .stuck
  | _ => .stuck
end Mp
namespace Mp
open PySem PySem.Spec PyProof.Rows L2
section
variable {X : Cx} {H0 : Ent} {W : WX}
/-- what is asked behind something that is no value -/
def PostA {α : Type} (X : Cx) (W : WX) (σ : L2.St) (H : Hp) (Q : α → Hp → Prop) : Out α → Prop
  | .ok o => ∀ H', Same H H' → Q o H'
  | .exc c fs => ∀ cls dd H', Same H H' → ExR X.mg X.K H' c fs cls dd → W cls dd σ H'
  | .stuck => False
/-! ## slices' parts -/
def tDO (X : Cx) (H0 : Ent) (W : WX) (f : Rho → Out (Option Int)) : TO := fun σ H Q => ∃ ρ U, Pt X.K H0 σ H ρ U ∧ PostA X W σ H Q (f ρ)
def partD : D → Out (Option Int)
  | .int i => .ok (some i)
  | _ => .stuck
abbrev DO (X : Cx) (H0 : Ent) (W : WX) (e : Option Expr) (f : Rho → Out (Option Int)) : Prop := PO X e (tDO X H0 W f)
theorem PO.imp {e : Option Expr} {t t' : TO} (h : PO X e t) (i : ∀ σ H Q, t' σ H Q → t σ H Q) : PO X e t' := ⟨fun pins s σ H Q I q => h.run pins s σ H Q I (i σ H Q q)⟩
theorem do_none : DO X H0 W none fun _ => .ok none := PO.imp po_none fun _ H _ ⟨_, _, _, q⟩ => q H (Same.refl H)
theorem do_some {e : Expr} {f : Rho → Out D} (h : DE X H0 W .b e f) : DO X H0 W (some e) fun ρ => (f ρ).bind partD := PO.imp (po_some h) fun σ H Q ⟨ρ, U, P, q⟩ => by
  refine ⟨ρ, U, P, ?_⟩
  replace q : PostA X W σ H Q ((f ρ).bind partD) := q
  revert q
  cases f ρ with
  | exc c fs => exact fun q => q
  | stuck => exact fun q => q
  | ok d =>
    intro q v H1 s r
    cases d with
    | int i =>
      obtain rfl := r.int
      exact ⟨i, rfl, q H1 s⟩
    | _ => exact q.elim
theorem tDO.bind {m : Md} {fl : Rho → Out (Option Int)} {k : Option Int → Rho → Out D} {σ : L2.St} {H : Hp} {ρ : Rho} {U : Addr → Prop} {Q : VK} (P : Pt X.K H0 σ H ρ U) (h : PostM X W m σ H U Q ((fl ρ).bind fun o => k o ρ)) :
    tDO X H0 W fl σ H fun o H1 => Same H H1 ∧ Pt X.K H0 σ H1 ρ U ∧ PostM X W m σ H1 U Q (k o ρ) := by
  refine ⟨ρ, U, P, ?_⟩
  revert h
  cases fl ρ with
  | exc c fs => exact fun q => q
  | stuck => exact fun q => q
  | ok o => exact fun q H1 s => ⟨s, P.same s, PostM.later s q⟩
def rSl3 (K : PySem.W.Frag) : V → Option Int → Option Int → Hp → VK → Prop := fun x lo hi H Q => rSlA K x lo hi H Q ∨ rSlL K x lo hi H Q ∨ (∃ z, x = .str z ∧ z.length ≤ sizeLine ∧ Q (.str (cutS z lo hi)) H)
theorem Reps.cut {K : PySem.W.Frag} {U : Addr → Prop} {H : Hp} {vs : List V} {ds : List D} (r : Reps K U H vs ds) (lo hi : Option Int) : Reps K U H (cutV vs lo hi) (cutD ds lo hi) := by
  unfold cutV cutD
  rw [r.length]
  exact (r.drop _).take _
theorem whole_cut {α : Type} {ds : List α} {lo hi : Option Int} (h : HT.sIx ds.length 0 lo = 0 ∧ HT.sIx ds.length ds.length hi = ds.length) : cutD ds lo hi = ds := by
  unfold cutD
  rw [h.1, h.2]
  simp
theorem de_slice {a : Expr} {lo hi : Option Expr} {p2 pos : Pos} {fa : Rho → Out D} {fl fh : Rho → Out (Option Int)} (hsl : SlR X (rSl3 X.K)) (ha : DE X H0 W .b a fa) (hl : DO X H0 W lo fl) (hh : DO X H0 W hi fh) :
    DE X H0 W .v (.Subscript a (.Slice lo hi none p2) pos) fun ρ => (fa ρ).bind fun x => (fl ρ).bind fun l => (fh ρ).bind fun h => sliceD x l h :=
  PE.imp (pe_slice hsl ha hl hh) fun σ H Q h => (tD.bind (ma := .b) (k := fun x ρ => (fl ρ).bind fun l => (fh ρ).bind fun h => sliceD x l h) h).mono fun v H1 ⟨ρ, U, d, s1, P1, r1, q1⟩ => by
    have h2 := tDO.bind (k := fun l ρ => (fh ρ).bind fun h => sliceD d l h) P1 q1
    obtain ⟨ρ', U', P', q'⟩ := h2
    refine ⟨ρ', U', P', ?_⟩
    revert q'
    cases fl ρ' with
    | exc c fs => exact fun q => q
    | stuck => exact fun q => q
    | ok l =>
      intro q' H2 s2
      obtain ⟨s2', P2, q2⟩ := q' H2 s2
      have h3 := tDO.bind (k := fun h _ => sliceD d l h) P2 q2
      obtain ⟨ρ3, U3, P3, q3⟩ := h3
      refine ⟨ρ3, U3, P3, ?_⟩
      revert q3
      cases fh ρ3 with
      | exc c fs => exact fun q => q
      | stuck => exact fun q => q
      | ok u =>
        intro q3 H3 s3
        obtain ⟨s3', P4, q4⟩ := q3 H3 s3
        have r4 : BRep X.K U H3 v d := by
          have s13 := s2'.trans s3'
          rcases r1 with r1 | ⟨a, e, hu, o⟩
          · exact .inl (r1.mono (Kp.same s13))
          · exact .inr ⟨a, e, hu, o.mono (Kp.same s13) fun _ z => s13 _ _ z⟩
        cases d with
        | list xs =>
          obtain ⟨a, vs, rfl, h1, t1⟩ := r4.lst
          exact .inr (.inl ⟨a, vs, rfl, .inl h1, q4.lstV (fun p hp => P4.fresh hp) (t1.cut l u)⟩)
        | tuple xs =>
          obtain ⟨a, vs, rfl, h1, t1⟩ := r4.tup
          refine .inl ⟨a, vs, rfl, h1, fun hw => ?_, fun _ => q4.tup (fun p hp => P4.fresh hp) (t1.cut l u)⟩
          rw [t1.length] at hw
          have e := whole_cut hw
          have q5 : PostM X W .v σ H3 U Q (.ok (.tuple (cutD xs l u))) := q4
          rw [e] at q5
          rcases r4 with r4 | ⟨_, _, _, z⟩
          · exact q5.val r4
          · exact z.elim
        | str z =>
          obtain rfl := r4.str
          have q5 : PostM X W .v σ H3 U Q (if z.length ≤ sizeLine then .ok (.str (cutS z l u)) else .stuck) := q4
          split at q5
          · rename_i hz
            exact .inr (.inr ⟨z, rfl, hz, q5.val (.str _)⟩)
          · exact q5.elim
        | _ => exact q4.elim
/-! ## argument lists -/
abbrev BReps (K : PySem.W.Frag) (U : Addr → Prop) (H : Hp) : List V → List D → Prop := Paired fun v d => BRep K U H v d
theorem BRep.same {K : PySem.W.Frag} {U : Addr → Prop} {H H' : Hp} (s : Same H H') {v : V} {d : D} (r : BRep K U H v d) : BRep K U H' v d := by
  rcases r with r | ⟨a, e, hu, o⟩
  · exact .inl (r.mono (Kp.same s))
  · exact .inr ⟨a, e, hu, o.mono (Kp.same s) fun _ z => s _ _ z⟩
theorem BReps.same {K : PySem.W.Frag} {U : Addr → Prop} {H H' : Hp} (s : Same H H') : ∀ {v : List V} {d : List D}, BReps K U H v d → BReps K U H' v d
  | _, _, .nil => .nil
  | _, _, .cons r t => .cons (r.same s) (BReps.same s t)
def RepL (K : PySem.W.Frag) (U : Addr → Prop) (H : Hp) (vs : List V) (ds : List D) : Bool → Prop
  | true => BReps K U H vs ds
  | false => Reps K U H vs ds
def PostL (X : Cx) (W : WX) (b : Bool) (σ : L2.St) (H : Hp) (U : Addr → Prop) (Q : List V → Hp → Prop) : Out (List D) → Prop
  | .ok ds => ∀ vs H', Same H H' → RepL X.K U H' vs ds b → Q vs H'
  | .exc c fs => ∀ cls dd H', Same H H' → ExR X.mg X.K H' c fs cls dd → W cls dd σ H'
  | .stuck => False
def tDA (X : Cx) (H0 : Ent) (W : WX) (b : Bool) (f : Rho → Out (List D)) : TA := fun σ H Q => ∃ ρ U, Pt X.K H0 σ H ρ U ∧ PostL X W b σ H U Q (f ρ)
abbrev DA (X : Cx) (H0 : Ent) (W : WX) (b : Bool) (es : List Expr) (f : Rho → Out (List D)) : Prop := PA X es (tDA X H0 W b f)
theorem RepL.nil {K : PySem.W.Frag} {U : Addr → Prop} {H : Hp} : ∀ {b : Bool}, RepL K U H [] [] b
  | true => Paired.nil
  | false => Reps.nil
theorem da_nil {b : Bool} : DA X H0 W b [] fun _ => .ok [] := PA.imp pa_nil fun _ H _ ⟨_, _, _, q⟩ => q [] H (Same.refl H) RepL.nil
def bMd : Bool → Md
  | true => .b
  | false => .v
theorem da_cons {b : Bool} {e : Expr} {es : List Expr} {f : Rho → Out D} {g : Rho → Out (List D)} (h : DE X H0 W (bMd b) e f) (t : DA X H0 W b es g) (hs : starEach (e :: es) X.env = (false, eval e X.env) :: starEach es X.env) :
    DA X H0 W b (e :: es) fun ρ => (f ρ).bind fun x => (g ρ).bind fun xs => .ok (x :: xs) :=
  PA.imp (pa_cons h t hs) fun σ H Q ⟨ρ, U, P, q⟩ => by
    refine ⟨ρ, U, P, ?_⟩
    replace q : PostL X W b σ H U Q ((f ρ).bind fun x => (g ρ).bind fun xs => .ok (x :: xs)) := q
    revert q
    cases f ρ with
    | exc c fs => exact fun q => q
    | stuck => exact fun q => q
    | ok d =>
      intro q v H1 s1 r1
      refine ⟨ρ, U, P.same s1, ?_⟩
      revert q
      cases g ρ with
      | exc c fs => exact fun q cls dd H' s' x => q cls dd H' (s1.trans s') x
      | stuck => exact fun q => q
      | ok ds =>
        intro q vs H2 s2 r2
        refine q (v :: vs) H2 (s1.trans s2) ?_
        cases b with
        | true => exact .cons (BRep.same s2 r1) r2
        | false => exact .cons (Rep.mono (Kp.same s2) r1) r2
/-! ## displays -/
def tupD (xs : List D) : Out D := if xs.length ≤ sizeLine then .ok (.tuple xs) else .stuck
def lstD (xs : List D) : Out D := if xs.length ≤ sizeLine then .ok (.list xs) else .stuck
theorem de_tup {es : List Expr} {x1 : Nat} {pos : Pos} {f : Rho → Out (List D)} (h : DA X H0 W false es f) : DE X H0 W .v (.Tuple es x1 pos) fun ρ => (f ρ).bind tupD :=
  PE.imp (pe_tup h) fun σ H Q ⟨ρ, U, P, q⟩ => by
    refine ⟨ρ, U, P, ?_⟩
    replace q : PostM X W .v σ H U Q ((f ρ).bind tupD) := q
    revert q
    cases f ρ with
    | exc c fs => exact fun q => q
    | stuck => exact fun q => q
    | ok ds =>
      intro q vs H1 s1 r1
      replace q : PostM X W .v σ H U Q (if ds.length ≤ sizeLine then .ok (.tuple ds) else .stuck) := q
      split at q
      · rename_i hz
        exact ⟨by rw [Reps.length r1]; exact hz, (PostM.later s1 q).tup (fun p hp => (P.same s1).fresh hp) r1⟩
      · exact q.elim
theorem de_lst {es : List Expr} {pos : Pos} {f : Rho → Out (List D)} (h : DA X H0 W false es f) : DE X H0 W .f (.List es pos) fun ρ => (f ρ).bind lstD :=
  PE.imp (pe_lst h) fun σ H Q ⟨ρ, U, P, q⟩ => by
    refine ⟨ρ, U, P, ?_⟩
    replace q : PostM X W .f σ H U Q ((f ρ).bind lstD) := q
    revert q
    cases f ρ with
    | exc c fs => exact fun q => q
    | stuck => exact fun q => q
    | ok ds =>
      intro q vs H1 s1 r1
      replace q : PostM X W .f σ H U Q (if ds.length ≤ sizeLine then .ok (.list ds) else .stuck) := q
      split at q
      · rename_i hz
        exact ⟨by rw [Reps.length r1]; exact hz, (PostM.later s1 q).lst (fun p hp => (P.same s1).fresh hp) r1⟩
      · exact q.elim
theorem de_dct0 {pos : Pos} : DE X H0 W .f (.Dict [] [] pos) fun _ => .ok (.dict []) :=
  PE.imp pe_dnewK fun σ H Q ⟨ρ, U, P, q⟩ => fun p hp => q _ _ (same_new hp) ⟨p, rfl, hp, [], upd_same, .nil⟩
end
end Mp
namespace Mp
open PySem PySem.Spec PyProof.Rows L2
/-! ## truth -/
def truthD : D → Out Bool
  | .none => .ok false
  | .bool b => .ok b
  | .int i => .ok (i != 0)
  | .str x => if x.length ≤ sizeLine then .ok ((x.length : Int) != 0) else .stuck
  | .list xs => .ok (!xs.isEmpty)
  | .tuple xs => .ok (!xs.isEmpty)
  | .dict es => .ok (!es.isEmpty)
def boolD : D → Out Bool
  | .bool b => .ok b
  | _ => .stuck
section
variable {X : Cx} {H0 : Ent} {W : WX}
theorem tru_brep {pins : List (Addr × Obj)} {s : Shared} {σ : L2.St} {H : Hp} {U : Addr → Prop} {v : V} {u : Value} {d : D} {k : Bool} {Q : Bool → Hp → Prop} (I : Inv X pins σ H s) (rv : RelV v u) (r : BRep X.K U H v d) (e : truthD d = .ok k) (q : Q k H) :
    wpAny (model X.prog X.w) X.A (truthy u) (TP X pins σ Q) X.xe s := by
  cases d with
  | none =>
    obtain rfl := r.non
    cases e
    exact tru_ok pins s σ H _ u Q I rv ⟨_, rfl, q⟩
  | bool b =>
    obtain rfl := r.bl
    cases e
    exact tru_ok pins s σ H _ u Q I rv ⟨_, rfl, q⟩
  | int i =>
    obtain rfl := r.int
    cases e
    exact tru_ok pins s σ H _ u Q I rv ⟨_, rfl, q⟩
  | str x =>
    obtain rfl := r.str
    simp only [truthD] at e
    split at e
    · rename_i hz
      cases e
      exact tru_ok pins s σ H _ u Q I rv ⟨_, ⟨hz, rfl⟩, q⟩
    · cases e
  | list xs =>
    obtain ⟨a, vs, rfl, h1, t1⟩ := r.lst
    cases e
    refine tru_ok pins s σ H _ u Q I rv ⟨_, .inl ⟨vs, .inl h1, rfl⟩, ?_⟩
    have ee : vs.isEmpty = xs.isEmpty := by cases t1 <;> rfl
    rw [ee]
    exact q
  | tuple xs =>
    obtain ⟨a, vs, rfl, h1, t1⟩ := r.tup
    cases e
    refine tru_ok pins s σ H _ u Q I rv ⟨_, .inr (.inl ⟨vs, h1, rfl⟩), ?_⟩
    have ee : vs.isEmpty = xs.isEmpty := by cases t1 <;> rfl
    rw [ee]
    exact q
  | dict es =>
    obtain ⟨a, kvs, rfl, h1, t1⟩ := r.dct
    cases e
    cases (show u = Value.ref a from rv)
    refine d_truth I h1 fun s' I' => ?_
    have ee : kvs.isEmpty = es.isEmpty := by cases t1 <;> rfl
    rw [ee]
    exact ⟨H, I', q⟩
def tDT (X : Cx) (H0 : Ent) (W : WX) (f : Rho → Out Bool) : TT := fun σ H Q => ∃ ρ U, Pt X.K H0 σ H ρ U ∧ PostA X W σ H Q (f ρ)
abbrev DT (X : Cx) (H0 : Ent) (W : WX) (e : Expr) (f : Rho → Out Bool) : Prop := PT X e (tDT X H0 W f)
abbrev DW (X : Cx) (H0 : Ent) (W : WX) (e : Expr) (f : Rho → Out Bool) : Prop := PW X e (tDT X H0 W f)
theorem PW.imp {e : Expr} {t t' : TT} (h : PW X e t) (i : ∀ σ H Q, t' σ H Q → t σ H Q) : PW X e t' := ⟨fun wh pins s σ H Q I q => h.run wh pins s σ H Q I (i σ H Q q)⟩
theorem PostA.later {α : Type} {σ : L2.St} {H H1 : Hp} {Q : α → Hp → Prop} (s : Same H H1) : ∀ {r : Out α}, PostA X W σ H Q r → PostA X W σ H1 Q r
  | .ok d, h => fun H' s' => h H' (s.trans s')
  | .exc c fs, h => fun cls dd H' s' r => h cls dd H' (s.trans s') r
  | .stuck, h => h
/-- how an expression's test is its value's truth -/
def Plain1 (e : Expr) (env : Env) : Prop := ∀ whole, isTrue e env whole = (do let v ← whole; standAt e.pos; holding [v] (truthy v))
theorem dt_truth {e : Expr} {f : Rho → Out D} (h : DE X H0 W .b e f) (he : Plain1 e X.env) : DT X H0 W e fun ρ => (f ρ).bind truthD := by
  refine ⟨fun pins s σ H Q I ⟨ρ, U, P, q⟩ => ?_⟩
  replace q : PostA X W σ H Q ((f ρ).bind truthD) := q
  refine isTrue_plain (thn (h.run pins s σ H (fun v H1 => Same H H1 ∧ ∃ d U, f ρ = .ok d ∧ BRep X.K U H1 v d) I ⟨ρ, U, P, ?_⟩) fun u s1 ⟨v, H1, I1, r1, s01, d, U1, ed, rd⟩ => ?_) (he _)
  · cases ef : f ρ with
    | exc c fs =>
      rw [ef] at q
      exact q
    | stuck =>
      rw [ef] at q
      exact q
    | ok d => exact fun v H1 s1 r => ⟨s1, d, U, rfl, r⟩
  · rw [ed] at q
    replace q : PostA X W σ H Q (truthD d) := q
    cases ek : truthD d with
    | exc c fs =>
      cases d <;> simp [truthD] at ek
      split at ek <;> cases ek
    | stuck =>
      rw [ek] at q
      exact q.elim
    | ok k =>
      rw [ek] at q
      exact tru_brep I1 r1 rd ek (q H1 s01)
/-- an expression that gives a bool, whatever its test's form is -/
theorem dt_of {e : Expr} {t : TE} {f : Rho → Out D} (h : PT X e (tTest t)) (i : ∀ σ H Q, tD X H0 W .v f σ H Q → t σ H Q) : DT X H0 W e fun ρ => (f ρ).bind boolD :=
  PT.imp h fun σ H Q ⟨ρ, U, P, q⟩ => i σ H _ ⟨ρ, U, P, by
    replace q : PostA X W σ H Q ((f ρ).bind boolD) := q
    revert q
    cases f ρ with
    | exc c fs => exact fun q => q
    | stuck => exact fun q => q
    | ok d =>
      intro q v H1 s1 r1
      cases d with
      | bool b =>
        cases r1
        exact ⟨b, rfl, q H1 s1⟩
      | _ => exact q.elim⟩
theorem dt_cmp {op : CmpOp} {r : R2} {g : D → D → Out D} {a b : Expr} {fa fb : Rho → Out D} {pos : Pos} (ho : OpR X (compareOp op) r) (hm : behindInMarks op b = false) (hr : Row2 X W .v r g) (ha : DE X H0 W .b a fa) (hb : DE X H0 W .b b fb) :
    DT X H0 W (.Compare a [op] [b] pos) fun ρ => ((fa ρ).bind fun x => (fb ρ).bind fun y => g x y).bind boolD :=
  dt_of (pt_cmpR ho ha hb hm) fun _ _ _ h => tD.two hr h
/-! ## chains of two comparisons -/
def chainD (x y : D) (g g' : D → D → Out D) (z : Out D) : Out D := (g x y).bind fun r => (boolD r).bind fun k => if k = true then z.bind fun z => g' y z else .ok (.bool false)
theorem tD.chain {r r' : R2} {g g' : D → D → Out D} {fa fb fc : Rho → Out D} {σ : L2.St} {H : Hp} {Q : VK} (hr : Row2 X W .v r g) (hr' : Row2 X W .v r' g')
    (h : tD X H0 W .v (fun ρ => (fa ρ).bind fun x => (fb ρ).bind fun y => chainD x y g g' (fc ρ)) σ H Q) : tChain r r' (tD X H0 W .b fa) (tD X H0 W .b fb) (tD X H0 W .b fc) σ H Q := by
  obtain ⟨ρ, U, P, q⟩ := h
  replace q : PostM X W .v σ H U Q ((fa ρ).bind fun x => (fb ρ).bind fun y => chainD x y g g' (fc ρ)) := q
  refine ⟨ρ, U, P, ?_⟩
  revert q
  cases fa ρ with
  | exc c fs => exact fun q => q
  | stuck => exact fun q => q
  | ok x =>
    intro q v H1 s1 r1
    refine ⟨ρ, U, P.same s1, ?_⟩
    replace q : PostM X W .v σ H U Q ((fb ρ).bind fun y => chainD x y g g' (fc ρ)) := q
    revert q
    cases fb ρ with
    | exc c fs => exact fun q cls dd H' s' x => q cls dd H' (s1.trans s') x
    | stuck => exact fun q => q
    | ok y =>
      intro q u H2 s2 r2
      replace q : PostM X W .v σ H U Q (chainD x y g g' (fc ρ)) := q
      have P2 := (P.same s1).same s2
      refine hr σ U H2 v u x y _ (fun p hp => P2.fresh hp) (r1.same s2) r2 ?_
      unfold chainD at q
      revert q
      cases g x y with
      | exc c fs => exact fun q cls dd H' s' x => q cls dd H' ((s1.trans s2).trans s') x
      | stuck => exact fun q => q
      | ok d =>
        intro q w H3 s3 r3
        replace q : PostM X W .v σ H U Q ((boolD d).bind fun k => if k = true then (fc ρ).bind fun z => g' y z else .ok (.bool false)) := q
        have s13 := (s1.trans s2).trans s3
        cases d with
        | bool k =>
          cases r3
          refine ⟨k, rfl, ?_⟩
          cases k with
          | false => exact q (.bl false) H3 s13 (.bl _)
          | true =>
            refine ⟨ρ, U, P2.same s3, ?_⟩
            replace q : PostM X W .v σ H U Q ((fc ρ).bind fun z => g' y z) := q
            revert q
            cases fc ρ with
            | exc c fs => exact fun q cls dd H' s' x => q cls dd H' (s13.trans s') x
            | stuck => exact fun q => q
            | ok z => exact fun q w' H4 s4 r4 => hr' σ U H4 u w' y z Q (fun p hp => ((P2.same s3).same s4).fresh hp) ((r2.same s3).same s4) r4 (PostM.later (s13.trans s4) q)
        | _ => exact q.elim
theorem de_chain {op op' : CmpOp} {r r' : R2} {g g' : D → D → Out D} {a b c : Expr} {fa fb fc : Rho → Out D} {pos : Pos} (ho : OpR X (compareOp op) r) (ho' : OpR X (compareOp op') r') (hm : lastMarks [op, op'] [b, c] = false) (hr : Row2 X W .v r g) (hr' : Row2 X W .v r' g')
    (ha : DE X H0 W .b a fa) (hb : DE X H0 W .b b fb) (hc : DE X H0 W .b c fc) : DE X H0 W .v (.Compare a [op, op'] [b, c] pos) fun ρ => (fa ρ).bind fun x => (fb ρ).bind fun y => chainD x y g g' (fc ρ) :=
  PE.imp (pe_chain ho ho' ha hb hc hm) fun _ _ _ h => tD.chain hr hr' h
theorem dt_chain {op op' : CmpOp} {r r' : R2} {g g' : D → D → Out D} {a b c : Expr} {fa fb fc : Rho → Out D} {pos : Pos} (ho : OpR X (compareOp op) r) (ho' : OpR X (compareOp op') r') (hm : lastMarks [op, op'] [b, c] = false) (hr : Row2 X W .v r g) (hr' : Row2 X W .v r' g')
    (ha : DE X H0 W .b a fa) (hb : DE X H0 W .b b fb) (hc : DE X H0 W .b c fc) : DT X H0 W (.Compare a [op, op'] [b, c] pos) fun ρ => ((fa ρ).bind fun x => (fb ρ).bind fun y => chainD x y g g' (fc ρ)).bind boolD :=
  dt_of (pt_chain ho ho' ha hb hc hm) fun _ _ _ h => tD.chain hr hr' h
/-! ## and, or, not as tests -/
theorem dt_not {e : Expr} {f : Rho → Out Bool} {pos : Pos} (h : DT X H0 W e f) : DT X H0 W (.UnaryOp .Not e pos) fun ρ => (f ρ).bind fun k => .ok (!k) :=
  PT.imp (pt_not h) fun σ H Q ⟨ρ, U, P, q⟩ => ⟨ρ, U, P, by
    replace q : PostA X W σ H Q ((f ρ).bind fun k => .ok (!k)) := q
    revert q
    cases f ρ with
    | exc c fs => exact fun q => q
    | stuck => exact fun q => q
    | ok k => exact fun q => q⟩
theorem dw_and1 {e : Expr} {f : Rho → Out Bool} {pos : Pos} (h : DT X H0 W e f) : DW X H0 W (.BoolOp .And [e] pos) f := pw_and1 h
theorem dw_or1 {e : Expr} {f : Rho → Out Bool} {pos : Pos} (h : DT X H0 W e f) : DW X H0 W (.BoolOp .Or [e] pos) f := pw_or1 h
theorem dw_and {e e2 : Expr} {es : List Expr} {f g : Rho → Out Bool} {pos : Pos} (h : DT X H0 W e f) (t : DW X H0 W (.BoolOp .And (e2 :: es) pos) g) :
    DW X H0 W (.BoolOp .And (e :: e2 :: es) pos) fun ρ => (f ρ).bind fun k => if k = true then g ρ else .ok false :=
  PW.imp (pw_and h t) fun σ H Q ⟨ρ, U, P, q⟩ => ⟨ρ, U, P, by
    replace q : PostA X W σ H Q ((f ρ).bind fun k => if k = true then g ρ else .ok false) := q
    revert q
    cases f ρ with
    | exc c fs => exact fun q => q
    | stuck => exact fun q => q
    | ok k =>
      intro q H1 s1
      cases k with
      | false => exact q H1 s1
      | true => exact ⟨ρ, U, P.same s1, PostA.later s1 q⟩⟩
theorem dw_or {e e2 : Expr} {es : List Expr} {f g : Rho → Out Bool} {pos : Pos} (h : DT X H0 W e f) (t : DW X H0 W (.BoolOp .Or (e2 :: es) pos) g) :
    DW X H0 W (.BoolOp .Or (e :: e2 :: es) pos) fun ρ => (f ρ).bind fun k => if k = true then .ok true else g ρ :=
  PW.imp (pw_or h t) fun σ H Q ⟨ρ, U, P, q⟩ => ⟨ρ, U, P, by
    replace q : PostA X W σ H Q ((f ρ).bind fun k => if k = true then .ok true else g ρ) := q
    revert q
    cases f ρ with
    | exc c fs => exact fun q => q
    | stuck => exact fun q => q
    | ok k =>
      intro q H1 s1
      cases k with
      | true => exact q H1 s1
      | false => exact ⟨ρ, U, P.same s1, PostA.later s1 q⟩⟩
/-- a if t else b, as a test -/
theorem dt_ifExp {c a b : Expr} {fc fa fb : Rho → Out Bool} {pos : Pos} (hc : DT X H0 W c fc) (ha : DT X H0 W a fa) (hb : DT X H0 W b fb) : DT X H0 W (.IfExp c a b pos) fun ρ => (fc ρ).bind fun k => if k = true then fa ρ else fb ρ := by
  refine ⟨fun pins s σ H Q I ⟨ρ, U, P, q⟩ => ?_⟩
  replace q : PostA X W σ H Q ((fc ρ).bind fun k => if k = true then fa ρ else fb ρ) := q
  show wpAny _ _ (do if ← isTrue c X.env (eval c X.env) then isTrue a X.env (eval a X.env) else isTrue b X.env (eval b X.env)) _ _ _
  refine wpAny_bind (thn (hc.run pins s σ H (fun k H1 => Same H H1 ∧ fc ρ = .ok k) I ⟨ρ, U, P, ?_⟩) fun k s1 ⟨H1, I1, s01, ek⟩ => ?_)
  · cases ef : fc ρ with
    | exc c fs =>
      rw [ef] at q
      exact q
    | stuck =>
      rw [ef] at q
      exact q
    | ok k => exact fun H1 s1 => ⟨s1, rfl⟩
  · rw [ek] at q
    cases k with
    | true => exact ha.run pins s1 σ H1 Q I1 ⟨ρ, U, P.same s01, PostA.later s01 q⟩
    | false => exact hb.run pins s1 σ H1 Q I1 ⟨ρ, U, P.same s01, PostA.later s01 q⟩
/-! ## values -/
theorem de_ifExp {m : Md} {c a b : Expr} {fc : Rho → Out Bool} {fa fb : Rho → Out D} {pos : Pos} (hc : DT X H0 W c fc) (ha : DE X H0 W m a fa) (hb : DE X H0 W m b fb) : DE X H0 W m (.IfExp c a b pos) fun ρ => (fc ρ).bind fun k => if k = true then fa ρ else fb ρ :=
  PE.imp (pe_ifExp hc ha hb) fun σ H Q ⟨ρ, U, P, q⟩ => ⟨ρ, U, P, by
    replace q : PostM X W m σ H U Q ((fc ρ).bind fun k => if k = true then fa ρ else fb ρ) := q
    revert q
    cases fc ρ with
    | exc c fs => exact fun q => q
    | stuck => exact fun q => q
    | ok k =>
      intro q H1 s1
      cases k with
      | true => exact ⟨ρ, U, P.same s1, PostM.later s1 q⟩
      | false => exact ⟨ρ, U, P.same s1, PostM.later s1 q⟩⟩
/-- a test whose truth is wanted as a value: not, and a comparison -/
theorem de_notV {e : Expr} {f : Rho → Out D} {pos : Pos} (h : DE X H0 W .b e f) : DE X H0 W .v (.UnaryOp .Not e pos) fun ρ => ((f ρ).bind truthD).bind fun k => .ok (.bool (!k)) := by
  refine ⟨fun pins s σ H Q I ⟨ρ, U, P, q⟩ => ?_⟩
  replace q : PostM X W .v σ H U Q (((f ρ).bind truthD).bind fun k => .ok (.bool (!k))) := q
  refine UnaryOp_ (thn (h.run pins s σ H (fun v H1 => Same H H1 ∧ ∃ d U, f ρ = .ok d ∧ BRep X.K U H1 v d) I ⟨ρ, U, P, ?_⟩) fun u s1 ⟨v, H1, I1, r1, s01, d, U1, ed, rd⟩ => ?_)
  · cases ef : f ρ with
    | exc c fs =>
      rw [ef] at q
      exact q
    | stuck =>
      rw [ef] at q
      exact q
    | ok d => exact fun v H1 s1 r => ⟨s1, d, U, rfl, r⟩
  · rw [ed] at q
    replace q : PostM X W .v σ H U Q ((truthD d).bind fun k => .ok (.bool (!k))) := q
    cases ek : truthD d with
    | exc c fs =>
      cases d <;> simp [truthD] at ek
      split at ek <;> cases ek
    | stuck =>
      rw [ek] at q
      exact q.elim
    | ok k =>
      rw [ek] at q
      exact not_of (thn (tru_brep (Q := fun c H2 => c = k ∧ H2 = H1) I1 r1 rd ek ⟨rfl, rfl⟩) fun c s2 ⟨H2, I2, e1, e2⟩ => by
        subst e1 e2
        exact ⟨.bl (!c), H2, I2, rfl, q (.bl (!c)) H2 s01 (.bl _)⟩)
theorem de_one {m : Md} {op : BoolOp} {e : Expr} {f : Rho → Out D} {pos : Pos} (h : DE X H0 W m e f) : DE X H0 W m (.BoolOp op [e] pos) f := pe_one h
theorem de_andV {e e2 : Expr} {es : List Expr} {f g : Rho → Out D} {pos : Pos} (h : DE X H0 W .v e f) (t : DE X H0 W .v (.BoolOp .And (e2 :: es) pos) g) :
    DE X H0 W .v (.BoolOp .And (e :: e2 :: es) pos) fun ρ => (f ρ).bind fun d => (truthD d).bind fun k => if k = true then g ρ else .ok d := by
  refine ⟨fun pins s σ H Q I ⟨ρ, U, P, q⟩ => ?_⟩
  replace q : PostM X W .v σ H U Q ((f ρ).bind fun d => (truthD d).bind fun k => if k = true then g ρ else .ok d) := q
  refine BoolOp_and (thn (h.run pins s σ H (fun v H1 => Same H H1 ∧ ∃ d, f ρ = .ok d ∧ Rep X.K U H1 v d) I ⟨ρ, U, P, ?_⟩) fun u s1 ⟨v, H1, I1, r1, s01, d, ed, rd⟩ => ?_)
  · cases ef : f ρ with
    | exc c fs =>
      rw [ef] at q
      exact q
    | stuck =>
      rw [ef] at q
      exact q
    | ok d => exact fun v H1 s1 r => ⟨s1, d, rfl, r⟩
  · rw [ed] at q
    replace q : PostM X W .v σ H U Q ((truthD d).bind fun k => if k = true then g ρ else .ok d) := q
    cases ek : truthD d with
    | exc c fs =>
      cases d <;> simp [truthD] at ek
      split at ek <;> cases ek
    | stuck =>
      rw [ek] at q
      exact q.elim
    | ok k =>
      rw [ek] at q
      refine thn (tru_brep (Q := fun c H2 => c = k ∧ H2 = H1) I1 r1 (.inl rd) ek ⟨rfl, rfl⟩) fun c s2 ⟨H2, I2, e1, e2⟩ => ?_
      subst e1 e2
      cases c with
      | true => exact t.run pins s2 σ H2 Q I2 ⟨ρ, U, P.same s01, PostM.later s01 q⟩
      | false => exact ⟨v, H2, I2, r1, q v H2 s01 rd⟩
theorem de_orV {e e2 : Expr} {es : List Expr} {f g : Rho → Out D} {pos : Pos} (h : DE X H0 W .v e f) (t : DE X H0 W .v (.BoolOp .Or (e2 :: es) pos) g) :
    DE X H0 W .v (.BoolOp .Or (e :: e2 :: es) pos) fun ρ => (f ρ).bind fun d => (truthD d).bind fun k => if k = true then .ok d else g ρ := by
  refine ⟨fun pins s σ H Q I ⟨ρ, U, P, q⟩ => ?_⟩
  replace q : PostM X W .v σ H U Q ((f ρ).bind fun d => (truthD d).bind fun k => if k = true then .ok d else g ρ) := q
  refine BoolOp_or (thn (h.run pins s σ H (fun v H1 => Same H H1 ∧ ∃ d, f ρ = .ok d ∧ Rep X.K U H1 v d) I ⟨ρ, U, P, ?_⟩) fun u s1 ⟨v, H1, I1, r1, s01, d, ed, rd⟩ => ?_)
  · cases ef : f ρ with
    | exc c fs =>
      rw [ef] at q
      exact q
    | stuck =>
      rw [ef] at q
      exact q
    | ok d => exact fun v H1 s1 r => ⟨s1, d, rfl, r⟩
  · rw [ed] at q
    replace q : PostM X W .v σ H U Q ((truthD d).bind fun k => if k = true then .ok d else g ρ) := q
    cases ek : truthD d with
    | exc c fs =>
      cases d <;> simp [truthD] at ek
      split at ek <;> cases ek
    | stuck =>
      rw [ek] at q
      exact q.elim
    | ok k =>
      rw [ek] at q
      refine thn (tru_brep (Q := fun c H2 => c = k ∧ H2 = H1) I1 r1 (.inl rd) ek ⟨rfl, rfl⟩) fun c s2 ⟨H2, I2, e1, e2⟩ => ?_
      subst e1 e2
      cases c with
      | true => exact ⟨v, H2, I2, r1, q v H2 s01 rd⟩
      | false => exact t.run pins s2 σ H2 Q I2 ⟨ρ, U, P.same s01, PostM.later s01 q⟩
end
end Mp
namespace Mp
open PySem PySem.Spec PyProof.Rows L2
/-! ## calls of built-ins -/
def RowL (X : Cx) (W : WX) (m : Md) (r : List V → Hp → VK → Prop) (g : List D → Out D) : Prop :=
  ∀ σ U H vs ds Q, (∀ p, H p = none → ¬ U p) → BReps X.K U H vs ds → PostM X W m σ H U Q (g ds) → r vs H Q
section
variable {X : Cx} {H0 : Ent} {W : WX}
theorem tDA.row {m : Md} {r : List V → Hp → VK → Prop} {g : List D → Out D} {f : Rho → Out (List D)} {σ : L2.St} {H : Hp} {Q : VK} (hr : RowL X W m r g) (h : tD X H0 W m (fun ρ => (f ρ).bind g) σ H Q) :
    tCB r (tDA X H0 W true f) σ H Q := by
  obtain ⟨ρ, U, P, q⟩ := h
  replace q : PostM X W m σ H U Q ((f ρ).bind g) := q
  refine ⟨ρ, U, P, ?_⟩
  revert q
  cases f ρ with
  | exc c fs => exact fun q => q
  | stuck => exact fun q => q
  | ok ds => exact fun q vs H1 s1 r1 => hr σ U H1 vs ds Q (fun p hp => (P.same s1).fresh hp) r1 (PostM.later s1 q)
theorem de_callB {m : Md} {id : String} {x : Str} {p pos : Pos} {e : Expr} {es : List Expr} {r : List V → Hp → VK → Prop} {g : List D → Out D} {f : Rho → Out (List D)} (hc : CallR X (.builtin id) r) (hr : RowL X W m r g)
    (hg : Gl X x) (hm : X.mg x = none) (hv : bootBuiltins x = some (.builtin id)) (hn : x ≠ "__name__") (hdb : (x == ("__debug__" : Str)) = false)
    (he : starEach (e :: es) X.env = (false, eval e X.env) :: starEach es X.env) (hpl : (backTo pos (starEach es X.env)).any (·.1) = false)
    (ha : DA X H0 W true (e :: es) f) : DE X H0 W m (.Call (.Name x p) (e :: es) [] pos) fun ρ => (f ρ).bind g :=
  PE.imp (pe_callB hc hg hm hv ha hn hdb he hpl) fun _ _ _ h => tDA.row hr h
theorem de_callTy {m : Md} {T : String} {x : Str} {p pos : Pos} {e : Expr} {es : List Expr} {r : List V → Hp → VK → Prop} {g : List D → Out D} {f : Rho → Out (List D)} (hc : CallR X (.type T) r) (hr : RowL X W m r g)
    (hg : Gl X x) (hm : X.mg x = none) (hv : bootBuiltins x = some (.type T)) (hn : x ≠ "__name__") (hdb : (x == ("__debug__" : Str)) = false)
    (he : starEach (e :: es) X.env = (false, eval e X.env) :: starEach es X.env) (hpl : (backTo pos (starEach es X.env)).any (·.1) = false)
    (ha : DA X H0 W true (e :: es) f) : DE X H0 W m (.Call (.Name x p) (e :: es) [] pos) fun ρ => (f ρ).bind g :=
  PE.imp (pe_callTy hc hg hm hv ha hn hdb he hpl) fun _ _ _ h => tDA.row hr h
end
theorem breps1 {K : PySem.W.Frag} {U : Addr → Prop} {H : Hp} {vs : List V} {d : D} (r : BReps K U H vs [d]) : ∃ v, vs = [v] ∧ BRep K U H v d := by
  cases r with
  | cons r t =>
    cases t
    exact ⟨_, rfl, r⟩
theorem breps2 {K : PySem.W.Frag} {U : Addr → Prop} {H : Hp} {vs : List V} {d e : D} (r : BReps K U H vs [d, e]) : ∃ v u, vs = [v, u] ∧ BRep K U H v d ∧ BRep K U H u e := by
  cases r with
  | cons r t =>
    obtain ⟨u, rfl, r2⟩ := breps1 t
    exact ⟨_, u, rfl, r, r2⟩
theorem CallR.or {X : Cx} {f : Value} {r r' : List V → Hp → VK → Prop} (h : CallR X f r) (h' : CallR X f r') : CallR X f fun xs H Q => r xs H Q ∨ r' xs H Q :=
  fun pins s σ H xs us Q I r q => q.elim (h pins s σ H xs us Q I r) (h' pins s σ H xs us Q I r)
/-! ### len -/
def lenF : D → Out D
  | .str z => if z.length ≤ sizeLine then .ok (.int z.length) else .stuck
  | .list xs => .ok (.int xs.length)
  | .tuple xs => .ok (.int xs.length)
  | .dict es => .ok (.int es.length)
  | _ => .stuck
def one (f : D → Out D) : List D → Out D
  | [x] => f x
  | _ => .stuck
def two (f : D → D → Out D) : List D → Out D
  | [x, y] => f x y
  | _ => .stuck
theorem RowL.one {X : Cx} {W : WX} {m : Md} {r : List V → Hp → VK → Prop} {f : D → Out D} (h : ∀ σ U H v d Q, (∀ p, H p = none → ¬ U p) → BRep X.K U H v d → PostM X W m σ H U Q (f d) → r [v] H Q) : RowL X W m r (one f) := fun σ U H vs ds Q hf rs q => by
  match ds, rs, q with
  | [d], rs, q =>
    obtain ⟨v, rfl, r1⟩ := breps1 rs
    exact h σ U H v d Q hf r1 q
  | [], rs, q => exact q.elim
  | _ :: _ :: _, rs, q => exact q.elim
theorem RowL.two {X : Cx} {W : WX} {m : Md} {r : List V → Hp → VK → Prop} {f : D → D → Out D} (h : ∀ σ U H v u d e Q, (∀ p, H p = none → ¬ U p) → BRep X.K U H v d → BRep X.K U H u e → PostM X W m σ H U Q (f d e) → r [v, u] H Q) : RowL X W m r (two f) := fun σ U H vs ds Q hf rs q => by
  match ds, rs, q with
  | [d, e], rs, q =>
    obtain ⟨v, u, rfl, r1, r2⟩ := breps2 rs
    exact h σ U H v u d e Q hf r1 r2 q
  | [], rs, q => exact q.elim
  | [_], rs, q => exact q.elim
  | _ :: _ :: _ :: _, rs, q => exact q.elim
def rLenD : List V → Hp → VK → Prop := fun xs H Q => ∃ a kvs, xs = [V.ref a] ∧ Rd H a (.dK kvs) ∧ Q (.int kvs.length) H
section
variable {X : Cx} {W : WX}
theorem call_lenRd : CallR X (.builtin "len") rLenD := by
  intro pins s σ H xs us Q I r h
  obtain ⟨a, kvs, rfl, ha, q⟩ := h
  obtain ⟨u, rfl, ru⟩ := vals1 r
  cases ru
  exact d_len I ha fun t s' I' => ⟨.int kvs.length, H, I', ⟨t, rfl⟩, q⟩
theorem row_len : RowL X W .v (fun xs H Q => (∃ x n, xs = [x] ∧ LenV X.K x H n ∧ Q (.int n) H) ∨ rLenD xs H Q) (one lenF) := RowL.one fun σ U H v d Q hf r1 q => by
  cases d with
  | str z =>
    obtain rfl := r1.str
    replace q : PostM X W .v σ H U Q (if z.length ≤ sizeLine then .ok (.int z.length) else .stuck) := q
    split at q
    · rename_i hz
      exact .inl ⟨_, _, rfl, ⟨hz, rfl⟩, q.val (.int _)⟩
    · exact q.elim
  | list xs =>
    obtain ⟨a, vs, rfl, h1, t1⟩ := r1.lst
    exact .inl ⟨_, _, rfl, .inl ⟨vs, .inl h1, rfl⟩, by rw [t1.length]; exact q.val (.int _)⟩
  | tuple xs =>
    obtain ⟨a, vs, rfl, h1, t1⟩ := r1.tup
    exact .inl ⟨_, _, rfl, .inr ⟨vs, h1, rfl⟩, by rw [t1.length]; exact q.val (.int _)⟩
  | dict es =>
    obtain ⟨a, vs, rfl, h1, t1⟩ := r1.dct
    exact .inr ⟨a, vs, rfl, h1, by rw [t1.length]; exact q.val (.int _)⟩
  | _ => exact q.elim
/-! ### numbers -/
def absF : D → Out D
  | .int i => .ok (.int (if i < 0 then -i else i))
  | _ => .stuck
theorem row_abs : RowL X W .v (fun xs H Q => ∃ i, xs = [.int i] ∧ Q (.int (if i < 0 then -i else i)) H) (one absF) := RowL.one fun σ U H v d Q hf r1 q => by
  cases d with
  | int i =>
    obtain rfl := r1.int
    exact ⟨i, rfl, q.val (.int _)⟩
  | _ => exact q.elim
def intF : D → Out D
  | .int i => .ok (.int i)
  | .bool b => .ok (.int (if b = true then 1 else 0))
  | .str x => match PySem.intText? x with
    | some n => if x.length ≤ 640 then .ok (.int n) else .stuck
    | none => .stuck
  | _ => .stuck
theorem row_int1 : RowL X W .v (fun xs H Q => ((∃ i, xs = [.int i] ∧ Q (.int i) H) ∨ ∃ k, xs = [.bl k] ∧ Q (.int (if k = true then 1 else 0)) H) ∨ ∃ a n, xs = [.str a] ∧ PySem.intText? a = some n ∧ a.length ≤ 640 ∧ Q (.int n) H) (one intF) := RowL.one fun σ U H v d Q hf r1 q => by
  cases d with
  | int i =>
    obtain rfl := r1.int
    exact .inl (.inl ⟨i, rfl, q.val (.int _)⟩)
  | bool b =>
    obtain rfl := r1.bl
    exact .inl (.inr ⟨b, rfl, q.val (.int _)⟩)
  | str x =>
    obtain rfl := r1.str
    replace q : PostM X W .v σ H U Q (match PySem.intText? x with
      | some n => if x.length ≤ 640 then .ok (.int n) else .stuck
      | none => .stuck) := q
    split at q
    · rename_i n hn
      split at q
      · rename_i hl
        exact .inr ⟨x, n, rfl, hn, hl, q.val (.int _)⟩
      · exact q.elim
    · exact q.elim
  | _ => exact q.elim
def strF : D → Out D
  | .int i => if i.natAbs.log2 < 1920 then .ok (.str (toString i)) else .stuck
  | _ => .stuck
theorem row_str : RowL X W .v (fun xs H Q => ∃ i, xs = [.int i] ∧ i.natAbs.log2 < 1920 ∧ Q (.str (toString i)) H) (one strF) := RowL.one fun σ U H v d Q hf r1 q => by
  cases d with
  | int i =>
    obtain rfl := r1.int
    replace q : PostM X W .v σ H U Q (if i.natAbs.log2 < 1920 then .ok (.str (toString i)) else .stuck) := q
    split at q
    · rename_i hi
      exact ⟨i, rfl, hi, q.val (.str _)⟩
    · exact q.elim
  | _ => exact q.elim
def maxF2 : D → D → Out D
  | .int i, .int j => .ok (.int (if j > i then j else i))
  | _, _ => .stuck
def minF2 : D → D → Out D
  | .int i, .int j => .ok (.int (if j < i then j else i))
  | _, _ => .stuck
theorem row_max2 : RowL X W .v (fun xs H Q => ∃ i j, xs = [.int i, .int j] ∧ Q (.int (if j > i then j else i)) H) (two maxF2) := RowL.two fun σ U H v u d e Q hf r1 r2 q => by
  cases d with
  | int i => cases e with
    | int j =>
      obtain rfl := r1.int
      obtain rfl := r2.int
      exact ⟨i, j, rfl, q.val (.int _)⟩
    | _ => exact q.elim
  | _ => cases e <;> exact q.elim
theorem row_min2 : RowL X W .v (fun xs H Q => ∃ i j, xs = [.int i, .int j] ∧ Q (.int (if j < i then j else i)) H) (two minF2) := RowL.two fun σ U H v u d e Q hf r1 r2 q => by
  cases d with
  | int i => cases e with
    | int j =>
      obtain rfl := r1.int
      obtain rfl := r2.int
      exact ⟨i, j, rfl, q.val (.int _)⟩
    | _ => exact q.elim
  | _ => cases e <;> exact q.elim
/-! ### lists of ints, of bools, of texts -/
def intsOf : List D → Option (List Int)
  | [] => some []
  | .int i :: ds => (intsOf ds).map (i :: ·)
  | _ => none
def blsOf : List D → Option (List Bool)
  | [] => some []
  | .bool i :: ds => (blsOf ds).map (i :: ·)
  | _ => none
def strsOf : List D → Option (List Str)
  | [] => some []
  | .str i :: ds => (strsOf ds).map (i :: ·)
  | _ => none
theorem intsOf_eq : ∀ {ds : List D} {ns : List Int}, intsOf ds = some ns → ds = ns.map .int
  | [], ns, h => by
    cases h
    rfl
  | d :: ds, ns, h => by
    cases d with
    | int i =>
      simp only [intsOf, Option.map_eq_some_iff] at h
      obtain ⟨ms, h1, rfl⟩ := h
      rw [intsOf_eq h1]
      rfl
    | _ => cases h
theorem blsOf_eq : ∀ {ds : List D} {ns : List Bool}, blsOf ds = some ns → ds = ns.map .bool
  | [], ns, h => by
    cases h
    rfl
  | d :: ds, ns, h => by
    cases d with
    | bool i =>
      simp only [blsOf, Option.map_eq_some_iff] at h
      obtain ⟨ms, h1, rfl⟩ := h
      rw [blsOf_eq h1]
      rfl
    | _ => cases h
theorem strsOf_eq : ∀ {ds : List D} {ns : List Str}, strsOf ds = some ns → ds = ns.map .str
  | [], ns, h => by
    cases h
    rfl
  | d :: ds, ns, h => by
    cases d with
    | str i =>
      simp only [strsOf, Option.map_eq_some_iff] at h
      obtain ⟨ms, h1, rfl⟩ := h
      rw [strsOf_eq h1]
      rfl
    | _ => cases h
theorem intsOf_map (ns : List Int) : intsOf (ns.map .int) = some ns := by
  induction ns with
  | nil => rfl
  | cons n ns ih =>
    show (intsOf (ns.map .int)).map (n :: ·) = _
    rw [ih]
    rfl
theorem blsOf_map (ns : List Bool) : blsOf (ns.map .bool) = some ns := by
  induction ns with
  | nil => rfl
  | cons n ns ih =>
    show (blsOf (ns.map .bool)).map (n :: ·) = _
    rw [ih]
    rfl
theorem strsOf_map (ns : List Str) : strsOf (ns.map .str) = some ns := by
  induction ns with
  | nil => rfl
  | cons n ns ih =>
    show (strsOf (ns.map .str)).map (n :: ·) = _
    rw [ih]
    rfl
def overInts (g : List Int → Out D) : D → Out D
  | .list xs => match intsOf xs with
    | some ns => g ns
    | none => .stuck
  | _ => .stuck
def overBls (g : List Bool → Out D) : D → Out D
  | .list xs => match blsOf xs with
    | some ns => g ns
    | none => .stuck
  | _ => .stuck
def sumF : D → Out D := overInts fun ns => .ok (.int ns.sum)
def allF : D → Out D := overBls fun bs => .ok (.bool (bs.all id))
def anyF : D → Out D := overBls fun bs => .ok (.bool (bs.any id))
def maxL : Int → List Int → Int
  | m, [] => m
  | m, n :: ns => maxL (if n > m then n else m) ns
def minL : Int → List Int → Int
  | m, [] => m
  | m, n :: ns => minL (if n < m then n else m) ns
def maxF : D → Out D := overInts fun ns => match ns with
  | [] => .stuck
  | n :: ns => .ok (.int (maxL n ns))
def minF : D → Out D := overInts fun ns => match ns with
  | [] => .stuck
  | n :: ns => .ok (.int (minL n ns))
theorem maxL_ge : ∀ (ns : List Int) (m : Int), m ≤ maxL m ns ∧ (∀ y ∈ ns, y ≤ maxL m ns) ∧ (maxL m ns = m ∨ maxL m ns ∈ ns)
  | [], m => ⟨Int.le_refl _, fun _ h => (nomatch h), .inl rfl⟩
  | n :: ns, m => by
    obtain ⟨h1, h2, h3⟩ := maxL_ge ns (if n > m then n else m)
    simp only [maxL]
    refine ⟨by split at h1 <;> split <;> omega, fun y hy => ?_, ?_⟩
    · rcases List.mem_cons.mp hy with rfl | hy
      · split at h1 <;> split <;> omega
      · exact h2 y hy
    · rcases h3 with h3 | h3
      · rw [h3]
        split
        · exact .inr (List.mem_cons_self ..)
        · exact .inl rfl
      · exact .inr (List.mem_cons_of_mem _ h3)
theorem minL_le : ∀ (ns : List Int) (m : Int), minL m ns ≤ m ∧ (∀ y ∈ ns, minL m ns ≤ y) ∧ (minL m ns = m ∨ minL m ns ∈ ns)
  | [], m => ⟨Int.le_refl _, fun _ h => (nomatch h), .inl rfl⟩
  | n :: ns, m => by
    obtain ⟨h1, h2, h3⟩ := minL_le ns (if n < m then n else m)
    simp only [minL]
    refine ⟨by split at h1 <;> split <;> omega, fun y hy => ?_, ?_⟩
    · rcases List.mem_cons.mp hy with rfl | hy
      · split at h1 <;> split <;> omega
      · exact h2 y hy
    · rcases h3 with h3 | h3
      · rw [h3]
        split
        · exact .inr (List.mem_cons_self ..)
        · exact .inl rfl
      · exact .inr (List.mem_cons_of_mem _ h3)
theorem row_ints {r : List V → Hp → VK → Prop} {g : List Int → Out D} (h : ∀ σ U H a ns Q, SqL X.K H a (ns.map V.int) → PostM X W .v σ H U Q (g ns) → r [.ref a] H Q) : RowL X W .v r (one (overInts g)) := RowL.one fun σ U H v d Q hf r1 q => by
  cases d with
  | list xs =>
    obtain ⟨a, vs, rfl, h1, t1⟩ := r1.lst
    simp only [overInts] at q
    split at q
    · rename_i ns hn
      obtain rfl := intsOf_eq hn
      rw [Reps.ints t1] at h1
      exact h σ U H a ns Q (.inl h1) q
    · exact q.elim
  | _ => exact q.elim
theorem row_bls {r : List V → Hp → VK → Prop} {g : List Bool → Out D} (h : ∀ σ U H a ns Q, SqL X.K H a (ns.map V.bl) → PostM X W .v σ H U Q (g ns) → r [.ref a] H Q) : RowL X W .v r (one (overBls g)) := RowL.one fun σ U H v d Q hf r1 q => by
  cases d with
  | list xs =>
    obtain ⟨a, vs, rfl, h1, t1⟩ := r1.lst
    simp only [overBls] at q
    split at q
    · rename_i ns hn
      obtain rfl := blsOf_eq hn
      rw [Reps.bls t1] at h1
      exact h σ U H a ns Q (.inl h1) q
    · exact q.elim
  | _ => exact q.elim
theorem row_sum : RowL X W .v (rSum X.K) (one sumF) := row_ints fun σ U H a ns Q h q => ⟨a, ns, rfl, h, q.val (.int _)⟩
theorem row_all : RowL X W .v (rAll X.K) (one allF) := row_bls fun σ U H a ns Q h q => ⟨a, ns, rfl, h, q.val (.bl _)⟩
theorem row_any : RowL X W .v (rAny X.K) (one anyF) := row_bls fun σ U H a ns Q h q => ⟨a, ns, rfl, h, q.val (.bl _)⟩
theorem row_max : RowL X W .v (rMax X.K) (one maxF) := row_ints fun σ U H a ns Q h q => by
  cases ns with
  | nil => exact q.elim
  | cons n ns =>
    refine ⟨a, _, rfl, h, Nat.succ_pos _, fun m h1 h2 => ?_⟩
    obtain ⟨k1, k2, k3⟩ := maxL_ge ns n
    have e : m = maxL n ns := by
      refine Int.le_antisymm ?_ (h2 _ ?_)
      · rcases List.mem_cons.mp h1 with rfl | h1
        · exact k1
        · exact k2 m h1
      · rcases k3 with k3 | k3
        · rw [k3]; exact List.mem_cons_self ..
        · exact List.mem_cons_of_mem _ k3
    rw [e]
    exact q.val (.int _)
theorem row_min : RowL X W .v (rMin X.K) (one minF) := row_ints fun σ U H a ns Q h q => by
  cases ns with
  | nil => exact q.elim
  | cons n ns =>
    refine ⟨a, _, rfl, h, Nat.succ_pos _, fun m h1 h2 => ?_⟩
    obtain ⟨k1, k2, k3⟩ := minL_le ns n
    have e : m = minL n ns := by
      refine Int.le_antisymm (h2 _ ?_) ?_
      · rcases k3 with k3 | k3
        · rw [k3]; exact List.mem_cons_self ..
        · exact List.mem_cons_of_mem _ k3
      · rcases List.mem_cons.mp h1 with rfl | h1
        · exact k1
        · exact k2 m h1
    rw [e]
    exact q.val (.int _)
/-! ### tuple, list, dict -/
def tupleF : D → Out D
  | .list xs => .ok (.tuple xs)
  | .tuple xs => .ok (.tuple xs)
  | _ => .stuck
theorem row_tuple : RowL X W .v (fun xs H Q => ∃ p ys, xs = [.ref p] ∧ ((SqL X.K H p ys ∧ ∀ l, H l = none → Q (.ref l) (upd H l (.tup ys))) ∨ (SqT X.K H p ys ∧ Q (.ref p) H))) (one tupleF) := RowL.one fun σ U H v d Q hf r1 q => by
  cases d with
  | list xs =>
    obtain ⟨a, vs, rfl, h1, t1⟩ := r1.lst
    exact ⟨a, vs, rfl, .inl ⟨.inl h1, q.tup hf t1⟩⟩
  | tuple xs =>
    obtain ⟨a, vs, e, h1, t1⟩ := r1.tup
    subst e
    rcases r1 with r1 | ⟨_, _, _, z⟩
    · exact ⟨a, vs, rfl, .inr ⟨h1, q.val r1⟩⟩
    · exact z.elim
  | _ => exact q.elim
def listF : D → Out D
  | .list xs => .ok (.list xs)
  | .tuple xs => .ok (.list xs)
  | .dict es => .ok (.list (es.map (·.1)))
  | _ => .stuck
theorem RepK.keys {K : PySem.W.Frag} {U : Addr → Prop} {H : Hp} : ∀ {kvs : List (Key × V)} {es : List (D × D)}, RepK K U H kvs es → Reps K U H (kvs.map fun kv => kV kv.1) (es.map (·.1))
  | _, _, .nil => .nil
  | _, _, .cons (k := k) r t => .cons (by cases k <;> constructor) (RepK.keys t)
theorem row_list : RowL X W .f (fun xs H Q => (∃ p ys, xs = [.ref p] ∧ (SqL X.K H p ys ∨ SqT X.K H p ys) ∧ ∀ l, H l = none → Q (.ref l) (upd H l (.lst ys))) ∨
    ∃ (a : Addr) (kvs : List (Key × V)), xs = [.ref a] ∧ Rd H a (.dK kvs) ∧ ∀ p, H p = none → Q (.ref p) (upd H p (.lst (kvs.map fun kv => kV kv.1)))) (one listF) := RowL.one fun σ U H v d Q hf r1 q => by
  cases d with
  | list xs =>
    obtain ⟨a, vs, rfl, h1, t1⟩ := r1.lst
    exact .inl ⟨a, vs, rfl, .inl (.inl h1), q.lst hf t1⟩
  | tuple xs =>
    obtain ⟨a, vs, rfl, h1, t1⟩ := r1.tup
    exact .inl ⟨a, vs, rfl, .inr h1, q.lst hf t1⟩
  | dict es =>
    obtain ⟨a, vs, rfl, h1, t1⟩ := r1.dct
    exact .inr ⟨a, vs, rfl, h1, q.lst hf t1.keys⟩
  | _ => exact q.elim
theorem PostM.dct {σ : L2.St} {H : Hp} {U : Addr → Prop} {Q : VK} {es : List (D × D)} {kvs : List (Key × V)} (h : PostM X W .f σ H U Q (.ok (.dict es))) (hf : ∀ p, H p = none → ¬ U p) (r : RepK X.K U H kvs es) : ∀ p, H p = none → Q (.ref p) (upd H p (.dK kvs)) := fun p hp =>
  h _ _ (same_new hp) ⟨p, rfl, hp, kvs, upd_same, r.mono ⟨fun a o e _ => same_new hp _ _ e, fun a z => z.imp id fun e => by rw [e]; exact hp⟩⟩
/-- pairs -/
def pairsOf : List D → Option (List (Key × D))
  | [] => some []
  | .tuple [k, v] :: ds => match keyOf k with
    | some k => (pairsOf ds).map ((k, v) :: ·)
    | none => none
  | _ => none
def mergeE (es : List (D × D)) : List (Key × D) → List (D × D)
  | [] => es
  | (k, v) :: ps => mergeE (putE es k v) ps
def dictF : D → Out D
  | .list ds => match pairsOf ds with
    | some ps => .ok (.dict (mergeE [] ps))
    | none => .stuck
  | .dict es => .ok (.dict es)
  | _ => .stuck
theorem reps2 {K : PySem.W.Frag} {U : Addr → Prop} {H : Hp} {vs : List V} {d e : D} (r : Reps K U H vs [d, e]) : ∃ v u, vs = [v, u] ∧ Rep K U H v d ∧ Rep K U H u e := by
  cases r with
  | cons r t =>
    cases t with
    | cons r2 t =>
      cases t
      exact ⟨_, _, rfl, r, r2⟩
theorem pairs_reps {K : PySem.W.Frag} {U : Addr → Prop} {H : Hp} : ∀ {ds : List D} {ps : List (Key × D)} {vs : List V}, pairsOf ds = some ps → Reps K U H vs ds →
    ∃ (qs : List Addr) (kvs : List (Key × V)), vs = qs.map V.ref ∧ Paired (fun p kv => SqT K H p [kV kv.1, kv.2]) qs kvs ∧ Paired (fun kv kd => kv.1 = kd.1 ∧ Rep K U H kv.2 kd.2) kvs ps
  | [], ps, vs, h, r => by
    cases h
    cases r
    exact ⟨[], [], rfl, .nil, .nil⟩
  | d :: ds, ps, vs, h, r => by
    cases r with
    | cons r1 t =>
      unfold pairsOf at h
      split at h
      · rename_i heq
        cases heq
      · rename_i k v ds' heq
        injection heq with h1 h2
        subst h1 h2
        split at h
        · rename_i k' hk
          obtain ⟨ps', h3, rfl⟩ := Option.map_eq_some_iff.mp h
          obtain ⟨qs, kvs, e1, e2, e3⟩ := pairs_reps h3 t
          obtain ⟨a, xs, rfl, h4, t4⟩ := BRep.tup (.inl r1)
          obtain ⟨x, y, rfl, r5, r6⟩ := reps2 t4
          obtain ⟨rfl, rfl⟩ := keyOf_brep hk (.inl r5)
          exact ⟨a :: qs, (k', y) :: kvs, by rw [e1]; rfl, .cons h4 e2, .cons ⟨rfl, r6⟩ e3⟩
        · cases h
      · cases h
theorem merge_rep {K : PySem.W.Frag} {U : Addr → Prop} {H : Hp} : ∀ {kvs : List (Key × V)} {ps : List (Key × D)}, Paired (fun kv kd => kv.1 = kd.1 ∧ Rep K U H kv.2 kd.2) kvs ps → ∀ {as : List (Key × V)} {es : List (D × D)}, RepK K U H as es → RepK K U H (mergeK as kvs) (mergeE es ps)
  | _, _, .nil, as, es, r => by
    unfold mergeK mergeE
    exact r
  | (k, v) :: kvs, (k', d) :: ps, .cons h t, as, es, r => by
    obtain ⟨rfl, r1⟩ := h
    have e : mergeK as ((k, v) :: kvs) = mergeK (putK as k v) kvs := by first | rfl | simp [mergeK]
    rw [e]
    exact merge_rep t (r.put r1)
theorem row_dict : RowL X W .f (fun xs H Q => (∃ (a : Addr) (ps : List Addr) (kvs : List (Key × V)), xs = [.ref a] ∧ SqL X.K H a (ps.map V.ref) ∧ Paired (fun p kv => SqT X.K H p [kV kv.1, kv.2]) ps kvs ∧
    ∀ p, H p = none → Q (.ref p) (upd H p (.dK (mergeK [] kvs)))) ∨ ∃ (a : Addr) (kvs : List (Key × V)), xs = [.ref a] ∧ Rd H a (.dK kvs) ∧ ∀ p, H p = none → Q (.ref p) (upd H p (.dK kvs))) (one dictF) := RowL.one fun σ U H v d Q hf r1 q => by
  cases d with
  | list ds =>
    obtain ⟨a, vs, rfl, h1, t1⟩ := r1.lst
    simp only [dictF] at q
    split at q
    · rename_i ps hp
      obtain ⟨qs, kvs, rfl, e2, e3⟩ := pairs_reps hp t1
      exact .inl ⟨a, qs, kvs, rfl, .inl h1, e2, q.dct hf (merge_rep e3 .nil)⟩
    · exact q.elim
  | dict es =>
    obtain ⟨a, vs, rfl, h1, t1⟩ := r1.dct
    exact .inr ⟨a, vs, rfl, h1, q.dct hf t1⟩
  | _ => exact q.elim
end
end Mp
namespace Mp
open PySem PySem.Spec PyProof.Rows L2
/-! ## sorted -/
def alikeB (ds : List D) : Bool := ds.all fun d => ds.all fun e => PySem.W.alike d e
def tupHd : D → Bool
  | .tuple (_ :: _) => true
  | _ => false
def noTup : D → Bool
  | .none => false
  | .tuple _ => false
  | _ => true
def sortB (ds : List D) : Bool := ds.all tupHd || ds.all noTup
def sortL (ds : List D) : List D := ds.mergeSort (PySem.W.dataLe false id)
theorem alikeB_ok {ds : List D} (h : alikeB ds = true) : PySem.W.AllAlike (ds.map id) := by
  rw [List.map_id]
  intro d hd e he
  exact List.all_eq_true.mp (List.all_eq_true.mp h d hd) e he
theorem sortB_ok {ds : List D} (h : sortB ds = true) : PySem.W.Sortable (ds.map id) := by
  rw [List.map_id]
  rcases Bool.or_eq_true_iff.mp h with h | h
  · refine .inl fun d hd => ?_
    have := List.all_eq_true.mp h d hd
    unfold tupHd at this
    split at this
    · exact ⟨_, _, rfl⟩
    · cases this
  · refine .inr fun d hd => ?_
    have := List.all_eq_true.mp h d hd
    constructor
    · rintro rfl
      cases this
    · rintro xs rfl
      cases this
def keyStrs : List (D × D) → Option (List Str)
  | [] => some []
  | (.str k, _) :: es => (keyStrs es).map (k :: ·)
  | _ => none
def leS (a b : Str) : Bool := decide (a.cps.toList ≤ b.cps.toList)
def sortS (ks : List Str) : List Str := ks.mergeSort leS
def sortedF : D → Out D
  | .list ds => if fitAll dpt ds = true ∧ alikeB ds = true ∧ sortB ds = true then .ok (.list (sortL ds)) else .stuck
  | .dict es => match keyStrs es with
    | some ks => if ks.length < 64 then .ok (.list ((sortS ks).map .str)) else .stuck
    | none => .stuck
  | _ => .stuck
def rSortData (K : PySem.W.Frag) : List V → Hp → VK → Prop := fun vs H Q => ∃ (a : Addr) (xs : List V) (ds : List D) (R : V → D → Prop), vs = [V.ref a] ∧ SqL K H a xs ∧ (Paired R xs ds ∧ ∀ v d, R v d → Dp K H v d) ∧ (fitAll dpt ds = true ∧ alikeB ds = true ∧ sortB ds = true) ∧
  ∀ (ys : List V) (p : Addr), Paired R ys (sortL ds) → H p = none → Q (.ref p) (upd H p (.lst ys))
section
variable {X : Cx}
theorem each_vals {R : V → D → Prop} {S : Value → D → Prop} (h : ∀ v u d, R v d → RelV v u → S u d) : ∀ {xs : List V} {ds : List D} {us : List Value}, Paired R xs ds → Vals xs us → PySem.W.EachIs S us ds
  | _, _, _, .nil, .nil => .nil
  | _, _, _, .cons r t, .cons q w => .cons (h _ _ _ r q) (each_vals h t w)
theorem vals_each {R : V → D → Prop} : ∀ {us : List Value} {ds : List D}, PySem.W.EachIs (fun u d => ∃ v, R v d ∧ RelV v u) us ds → ∃ xs, Paired R xs ds ∧ Vals xs us
  | _, _, .nil => ⟨[], .nil, .nil⟩
  | _, _, .cons ⟨v, r, q⟩ t => by
    obtain ⟨xs, h1, h2⟩ := vals_each t
    exact ⟨v :: xs, .cons r h1, .cons q h2⟩
theorem fitAll_mem : ∀ {ds : List D} {n : Nat}, fitAll n ds = true → ∀ d ∈ ds, fitD n d = true
  | [], _, _, d, hd => nomatch hd
  | e :: ds, n, h, d, hd => by
    simp only [fitAll, Bool.and_eq_true] at h
    rcases List.mem_cons.mp hd with rfl | hd
    · exact h.1
    · exact fitAll_mem h.2 d hd
theorem cr_sortData (hu : X.A.units + 64 < cLine) : CallR X (.builtin "sorted") (rSortData X.K) := by
  intro pins s σ H vs us Q I r h
  obtain ⟨a, xs, ds, R, rfl, hs, ⟨hp, hR⟩, ⟨h1, h2, h3⟩, q⟩ := h
  obtain ⟨its, rv, hl, hz⟩ := I.list hs
  rw [Vals.ref1 r]
  have lp : xs.length = ds.length := Paired.length hp
  have hall := fun d hd => fitD_ok d dpt (fitAll_mem h1 d hd)
  refine PySem.W.sorted_data (β := D) (enc := id) (bs := ds) (R := fun u d => ∃ v, R v d ∧ RelV v u) hl.isList
    (each_vals (fun v u d r q => ⟨v, r, q⟩) hp rv) (each_vals (fun v u d r q => Dp.reads I d v u (hR v d r) q) hp rv) (alikeB_ok h2) (sortB_ok h3)
    (by rw [← lp]; exact hz) (fun d hd => ?_) fun out e1 e2 => ?_
  · have h5 := (hall d hd).2
    have h6 : dpt = 60 := rfl
    show X.A.units + 2 + d.depth < cLine
    omega
  · obtain ⟨ys, g1, g2⟩ := vals_each e2
    obtain ⟨ep, he'⟩ := PyProof.Rows.sortedAll_at s.heap its out.toArray
    have hlen : ys.length ≤ sizeLine := by rw [g2.length, e1, ← lp]; exact hz
    exact ⟨.ref _, upd H (s.heap.objs.size + 1) (.lst ys), I.laid (t' := s.toks) (fun _ _ z => PyProof.Rows.sortedAll_old z) (Nat.le_succ _) ⟨hlen, out, ep, g2, by simpa using he'⟩, rfl, q ys _ g1 (I.hok.fresh (Nat.le_succ _))⟩
end
theorem keyStrs_eq {K : PySem.W.Frag} {U : Addr → Prop} {H : Hp} : ∀ {es : List (D × D)} {ks : List Str} {kvs : List (Key × V)}, keyStrs es = some ks → RepK K U H kvs es → kvs.map (·.1) = ks.map Sum.inr
  | [], ks, kvs, h, r => by
    cases h
    cases r
    rfl
  | e :: es, ks, kvs, h, r => by
    cases r with
    | cons r t =>
      rename_i k v kvs d
      cases k with
      | inl i => simp [keyStrs, keyD] at h
      | inr x =>
        simp only [keyD, keyStrs, Option.map_eq_some_iff] at h
        obtain ⟨ks', h1, rfl⟩ := h
        rw [List.map_cons, List.map_cons, keyStrs_eq h1 t]
theorem leS_total (a b : Str) : (leS a b || leS b a) = true := by
  unfold leS
  simp only [Bool.or_eq_true, decide_eq_true_eq]
  exact Std.le_total
theorem leS_trans (a b c : Str) (h1 : leS a b = true) (h2 : leS b c = true) : leS a c = true := by
  unfold leS at *
  simp only [decide_eq_true_eq] at *
  exact Std.le_trans h1 h2
theorem leS_anti (a b : Str) (h1 : leS a b = true) (h2 : leS b a = true) : a = b := by
  unfold leS at *
  simp only [decide_eq_true_eq] at *
  have h := Std.le_antisymm h1 h2
  cases a
  cases b
  exact congrArg Str.mk (Array.toList_inj.mp h)
theorem ltCps_iff (x y : List Nat) : ltCps x y = decide (x < y) := by
  induction x generalizing y with
  | nil => cases y <;> simp [ltCps]
  | cons a x ih =>
    cases y with
    | nil => simp [ltCps]
    | cons b y =>
      simp only [ltCps, List.cons_lt_cons_iff, ih]
      by_cases h1 : a < b
      · simp [h1]
      · by_cases h2 : a = b
        · simp [h2]
        · have h3 : b < a := by omega
          simp [h1, h2, h3]
theorem rising_pw : ∀ (ys : List Str) (p : Str), risingS p ys = true → (p :: ys).Pairwise (fun a b => leS a b = true)
  | [], p, _ => List.pairwise_singleton ..
  | x :: ys, p, h => by
    simp only [risingS, Bool.and_eq_true, Bool.not_eq_true'] at h
    obtain ⟨h1, h2⟩ := h
    have ih := rising_pw ys x h2
    have hpx : leS p x = true := by
      unfold leS
      rw [ltCps_iff] at h1
      simp only [decide_eq_false_iff_not, decide_eq_true_eq] at *
      exact Std.not_lt.mp h1
    refine List.pairwise_cons.mpr ⟨fun y hy => ?_, ih⟩
    rcases List.mem_cons.mp hy with rfl | hy
    · exact hpx
    · exact leS_trans _ _ _ hpx ((List.pairwise_cons.mp ih).1 y hy)
theorem sortS_the {ys ks : List Str} (hp : ys.Perm ks) (hs : sortedS ys = true) : ys = sortS ks := by
  have h1 : ys.Pairwise (fun a b => leS a b = true) := by
    cases ys with
    | nil => exact .nil
    | cons x ys => exact rising_pw ys x hs
  have h2 : (sortS ks).Pairwise (fun a b => leS a b = true) := List.pairwise_mergeSort leS_trans leS_total ks
  have h3 : ys.Perm (sortS ks) := hp.trans (List.mergeSort_perm ks leS).symm
  exact h3.eq_of_pairwise (fun a b _ _ => leS_anti a b) h1 h2
section
variable {X : Cx} {W : WX}
theorem Reps.paired {K : PySem.W.Frag} {U : Addr → Prop} {H : Hp} : ∀ {vs : List V} {ds : List D}, Reps K U H vs ds → Paired (fun v d => Rep K U H v d) vs ds
  | _, _, .nil => .nil
  | _, _, .cons r t => .cons r (Reps.paired t)
theorem Reps.of_paired {K : PySem.W.Frag} {U : Addr → Prop} {H : Hp} : ∀ {vs : List V} {ds : List D}, Paired (fun v d => Rep K U H v d) vs ds → Reps K U H vs ds
  | _, _, .nil => .nil
  | _, _, .cons r t => .cons r (Reps.of_paired t)
def Paired.and {α β : Type} {R : α → β → Prop} {P : β → Prop} : ∀ {xs : List α} {ys : List β}, Paired R xs ys → (∀ y ∈ ys, P y) → Paired (fun x y => R x y ∧ P y) xs ys
  | _, _, .nil, _ => .nil
  | _, _, .cons r t, h => .cons ⟨r, h _ (List.mem_cons_self ..)⟩ (Paired.and t fun y hy => h y (List.mem_cons_of_mem _ hy))
theorem row_sorted : RowL X W .f (fun vs H Q => rSortData X.K vs H Q ∨ ∃ (a : Addr) (kvs : List (Key × V)) (ks : List Str), vs = [.ref a] ∧ Rd H a (.dK kvs) ∧ kvs.map (·.1) = ks.map Sum.inr ∧ ks.length < 64 ∧
    ∀ ys p, ys.Perm ks → sortedS ys = true → H p = none → Q (.ref p) (upd H p (.lst (ys.map V.str)))) (one sortedF) := RowL.one fun σ U H v d Q hf r1 q => by
  cases d with
  | list ds =>
    obtain ⟨a, vs, rfl, h1, t1⟩ := r1.lst
    simp only [sortedF] at q
    split at q
    · rename_i hc
      refine .inl ⟨a, vs, ds, fun v d => Rep X.K U H v d ∧ d.plain = true, rfl, .inl h1, ⟨Paired.and t1.paired fun d hd => (fitD_ok d dpt (fitAll_mem hc.1 d hd)).1, fun v d h => h.1.dp h.2⟩, hc, fun ys p hy hp => ?_⟩
      exact q.lst hf (Reps.of_paired (Paired.mapP hy fun _ _ h => h.1)) p hp
    · exact q.elim
  | dict es =>
    obtain ⟨a, vs, rfl, h1, t1⟩ := r1.dct
    simp only [sortedF] at q
    split at q
    · rename_i ks hk
      split at q
      · rename_i hl
        refine .inr ⟨a, vs, ks, rfl, h1, keyStrs_eq hk t1, hl, fun ys p h2 h3 hp => ?_⟩
        rw [sortS_the h2 h3]
        exact q.lst hf (Reps.of_strs _) p hp
      · exact q.elim
    · exact q.elim
  | _ => exact q.elim
end
/-! ## isinstance -/
/-- a built-in class's name -/
def tyName : D → String
  | .none => "NoneType"
  | .bool _ => "bool"
  | .int _ => "int"
  | .str _ => "str"
  | .list _ => "list"
  | .tuple _ => "tuple"
  | .dict _ => "dict"
theorem Rep.ty {K : PySem.W.Frag} {U : Addr → Prop} {H : Hp} {v : V} {d : D} (r : Rep K U H v d) : TyX K H v (.type (tyName d)) := by
  have frz : ∀ {a o}, Rd H a o → H a = some o ∨ ∃ q, H a = some (.frz q o) := fun h => h
  cases r with
  | non => exact .base .non
  | bl b => exact .base (.bl b)
  | int i => exact .base (.int i)
  | str x => exact .base (.str x)
  | tup h _ =>
    rcases h with ⟨_, h⟩ | ⟨o, is, k, ⟨h1, h2⟩, h3⟩
    · rcases frz h with h | ⟨q, h⟩
      · exact .base (.tup h)
      · exact .fTuple h
    · exact .kTuple h1 h2
  | lst _ h _ =>
    rcases frz h with h | ⟨q, h⟩
    · exact .base (.lst h)
    · exact .base (.frz h)
  | dct _ h _ =>
    rcases frz h with h | ⟨q, h⟩
    · exact .base (.dK h)
    · exact .fDict h
theorem BRep.ty {K : PySem.W.Frag} {U : Addr → Prop} {H : Hp} {v : V} {d : D} (r : BRep K U H v d) : TyX K H v (.type (tyName d)) := Rep.ty r.rep0
/-- what isinstance says, of the built-in classes -/
def isiB : D → String → Bool
  | .none, c => c == "NoneType" || c == "object"
  | .bool _, c => c == "bool" || c == "int" || c == "object"
  | .int _, c => c == "int" || c == "object"
  | .str _, c => c == "str" || c == "object"
  | .list _, c => c == "list" || c == "object"
  | .tuple _, c => c == "tuple" || c == "object"
  | .dict _, c => c == "dict" || c == "object"
def isiC : List String := ["int", "bool", "str", "list", "tuple", "dict"]
theorem kitAll : ∀ t ∈ ["NoneType", "bool", "int", "str", "list", "tuple", "dict"], ∀ c ∈ isiC, ∃ b, kitB t c = some b := by decide +kernel
theorem kit_isi (d : D) {c : String} (hc : c ∈ isiC) : kitB (tyName d) c = some (isiB d c) := by
  have h : ∀ c ∈ isiC, kitB "NoneType" c = some (c == "NoneType" || c == "object") ∧ kitB "bool" c = some (c == "bool" || c == "int" || c == "object") ∧ kitB "int" c = some (c == "int" || c == "object") ∧ kitB "str" c = some (c == "str" || c == "object") ∧
    kitB "list" c = some (c == "list" || c == "object") ∧ kitB "tuple" c = some (c == "tuple" || c == "object") ∧ kitB "dict" c = some (c == "dict" || c == "object") := by decide +kernel
  obtain ⟨h1, h2, h3, h4, h5, h6, h7⟩ := h c hc
  cases d <;> assumption
section
variable {X : Cx} {H0 : Ent} {W : WX}
theorem de_isi {p p2 pos : Pos} {e : Expr} {c : Str} {T : String} {f : Rho → Out D} (hg : Gl X "isinstance") (hm : X.mg "isinstance" = none) (hgc : Gl X c) (hmc : X.mg c = none) (hvc : bootBuiltins c = some (.type T)) (hnc : c ≠ "__name__") (hdc : (c == ("__debug__" : Str)) = false)
    (hT : T ∈ isiC) (he : DE X H0 W .b e f) (hs : starEach [e, .Name c p2] X.env = [(false, eval e X.env), (false, eval (.Name c p2) X.env)]) (hs2 : starEach [.Name c p2] X.env = [(false, eval (.Name c p2) X.env)]) :
    DE X H0 W .v (.Call (.Name "isinstance" p) [e, .Name c p2] [] pos) fun ρ => (f ρ).bind fun d => .ok (.bool (isiB d T)) := by
  have hty : PE X (.Name c p2) (fun σ H Q => Q (.ty T) H) := ⟨fun pins s σ H Q I h => ld_blt I hgc hmc hvc ⟨.ty T, H, I, rfl, h⟩ hnc hdc⟩
  have ha : PA X [e, .Name c p2] (tCons (tD X H0 W .b f) (tCons (fun σ H Q => Q (.ty T) H) tNil)) := pa_cons he (pa_cons hty pa_nil hs2) (by rw [hs, hs2])
  refine PE.imp (pe_callB call_isi hg hm (by rfl) ha (by decide) (by decide) (by rw [hs, hs2]) (by rw [hs2]; rfl)) fun σ H Q h => ?_
  have h2 := tD.bind1 (k := fun d => .ok (.bool (isiB d T))) h
  exact h2.mono fun v H1 ⟨U, x, hf, r1, q⟩ => ⟨v, .ty T, .type (tyName x), .type T, isiB x T, rfl, .ty T, r1.ty, kit_ty (kit_isi x hT), q.val (.bl _)⟩
end
end Mp
namespace Mp
open PySem PySem.Spec PyProof.Rows L2
/-! ## what a loop walks, by data -/
/-- what may have happened since: b: nothing was written to; else: only to what is owned -/
def Kb (b : Bool) (U : Addr → Prop) (H : Hp) (U' : Addr → Prop) (H' : Hp) : Prop := (∀ p, H' p = none → ¬ U' p) ∧ match b with
  | true => (∀ a, U' a → U a ∨ H a = none) ∧ Same H H'
  | false => Kp U U' H H'
def JD (K : PySem.W.Frag) (Rl : (Addr → Prop) → Hp → Prop) (J : It) (ds : List D) : Prop :=
  ∀ U' H', Rl U' H' → J.stop ds.length H' ∧ ∀ i d, ds[i]? = some d → J.go i H' ∧ ∀ x H'', J.yld i H' x H'' → Same H' H'' ∧ Rep K U' H'' x d
def PostI (X : Cx) (W : WX) (b : Bool) (σ : L2.St) (H : Hp) (U : Addr → Prop) (R : It → Hp → Prop) : Out (List D) → Prop
  | .ok ds => ∀ J H', Same H H' → JD X.K (Kb b U H') J ds → R J H'
  | .exc c fs => ∀ cls dd H', Same H H' → ExR X.mg X.K H' c fs cls dd → W cls dd σ H'
  | .stuck => False
def tDI (X : Cx) (H0 : Ent) (W : WX) (b : Bool) (f : Rho → Out (List D)) : TI := fun σ H R => ∃ ρ U, Pt X.K H0 σ H ρ U ∧ PostI X W b σ H U R (f ρ)
abbrev DI (X : Cx) (H0 : Ent) (W : WX) (b : Bool) (tg e : Expr) (f : Rho → Out (List D)) : Prop := PI X tg e (tDI X H0 W b f)
section
variable {X : Cx} {H0 : Ent} {W : WX}
theorem PI.imp {tg e : Expr} {t t' : TI} (h : PI X tg e t) (i : ∀ σ H R, t' σ H R → t σ H R) : PI X tg e t' := ⟨fun pins s σ H R I q => h.run pins s σ H R I (i σ H R q)⟩
theorem PI.or {tg e : Expr} {t t' : TI} (h : PI X tg e t) (h' : PI X tg e t') : PI X tg e fun σ H R => t σ H R ∨ t' σ H R := ⟨fun pins s σ H R I q => q.elim (h.run pins s σ H R I) (h'.run pins s σ H R I)⟩
theorem Kb.seq {K : PySem.W.Frag} {b : Bool} {U U' : Addr → Prop} {H H' : Hp} (k : Kb b U H U' H') {vs : List V} {ds : List D} (r : Reps K U H vs ds) : Reps K U' H' vs ds := by
  cases b with
  | true =>
    obtain ⟨_, e, s⟩ := k
    exact r.mono ⟨fun a o z _ => s a o z, e⟩
  | false => exact r.mono k.2
theorem Kb.rd {K : PySem.W.Frag} {b : Bool} {U U' : Addr → Prop} {H H' : Hp} (k : Kb b U H U' H') {a : Addr} {o : HO} (hb : b = false → ¬ U a) (r : Rd H a o) : Rd H' a o := by
  cases b with
  | true =>
    obtain ⟨_, e, s⟩ := k
    rcases r with r | ⟨q, r⟩
    · exact .inl (s _ _ r)
    · exact .inr ⟨q, s _ _ r⟩
  | false => exact (Kp.rd k.2 (hb rfl) r).2
theorem rd_sqL {K : PySem.W.Frag} {H : Hp} {a : Addr} {xs : List V} (h : Rd H a (.lst xs)) : SqL K H a xs := .inl h
/-- the value at a list's place, in mode v or b -/
theorem repM_lst {K : PySem.W.Frag} {U : Addr → Prop} {H H' : Hp} {v : V} {ds : List D} {b : Bool} (r : RepM K U H H' v (.list ds) (bMd b)) : ∃ a xs, v = .ref a ∧ (b = false → ¬ U a) ∧ Rd H' a (.lst xs) ∧ Reps K U H' xs ds := by
  cases b with
  | true =>
    obtain ⟨a, xs, e, h1, h2⟩ := BRep.lst r
    exact ⟨a, xs, e, (fun z => nomatch z), h1, h2⟩
  | false =>
    have r : Rep K U H' v (.list ds) := r
    cases r with
    | lst h1 h2 h3 => exact ⟨_, _, rfl, fun _ => h1, h2, h3⟩
theorem repM_tup {K : PySem.W.Frag} {U : Addr → Prop} {H H' : Hp} {v : V} {ds : List D} {b : Bool} (r : RepM K U H H' v (.tuple ds) (bMd b)) : ∃ a xs, v = .ref a ∧ ((¬ U a ∧ Rd H' a (.tup xs)) ∨ WrT K a xs) ∧ Reps K U H' xs ds := by
  have r : Rep K U H' v (.tuple ds) := by
    cases b with
    | true =>
      rcases r with r | ⟨_, _, _, z⟩
      · exact r
      · exact z.elim
    | false => exact r
  cases r with
  | tup h r => exact ⟨_, _, rfl, h, r⟩
theorem repM_str {K : PySem.W.Frag} {U : Addr → Prop} {H H' : Hp} {v : V} {z : Str} {b : Bool} (r : RepM K U H H' v (.str z) (bMd b)) : v = .str z := by
  cases b with
  | true => exact BRep.str r
  | false => exact BRep.str (.inl r)
theorem jd_list {K : PySem.W.Frag} {b : Bool} {U : Addr → Prop} {H : Hp} {a : Addr} {xs : List V} {ds : List D} (hb : b = false → ¬ U a) (h : Rd H a (.lst xs)) (r : Reps K U H xs ds) : JD K (Kb b U H) (Itl K a) ds := fun U' H' k => by
  have h' : SqL K H' a xs := .inl (k.rd (K := K) hb h)
  have r' := k.seq r
  refine ⟨⟨xs, h', by rw [r'.length]; exact Nat.le_refl _⟩, fun i d hd => ?_⟩
  obtain ⟨x, hx, rx⟩ := r'.get hd
  refine ⟨⟨xs, x, h', hx⟩, fun y H'' ⟨e, hy⟩ => ?_⟩
  subst e
  have e2 := hy xs h'
  rw [hx] at e2
  cases e2
  exact ⟨Same.refl _, rx⟩
theorem kb_tup {K : PySem.W.Frag} {b : Bool} {U U' : Addr → Prop} {H H' : Hp} {a : Addr} {xs : List V} (k : Kb b U H U' H') (h : (¬ U a ∧ Rd H a (.tup xs)) ∨ WrT K a xs) : SqT K H' a xs := by
  rcases h with ⟨h1, h2⟩ | h
  · exact .inl (k.rd (K := K) (fun _ => h1) h2)
  · exact h.sq H'
theorem jd_tup {K : PySem.W.Frag} {b : Bool} {U : Addr → Prop} {H : Hp} {a : Addr} {xs : List V} {ds : List D} (h : (¬ U a ∧ Rd H a (.tup xs)) ∨ WrT K a xs) (r : Reps K U H xs ds) : JD K (Kb b U H) (Itt K a) ds := fun U' H' k => by
  have h' : SqT K H' a xs := kb_tup k h
  have r' := k.seq r
  refine ⟨⟨xs, h', by rw [r'.length]; exact Nat.le_refl _⟩, fun i d hd => ?_⟩
  obtain ⟨x, hx, rx⟩ := r'.get hd
  refine ⟨⟨xs, x, h', hx⟩, fun y H'' ⟨e, hy⟩ => ?_⟩
  subst e
  have e2 := hy xs h'
  rw [hx] at e2
  cases e2
  exact ⟨Same.refl _, rx⟩
def strItems (z : Str) : List D := z.cps.toList.map fun c => .str ⟨#[c]⟩
theorem jd_str {K : PySem.W.Frag} {b : Bool} {U : Addr → Prop} {H : Hp} (z : Str) : JD K (Kb b U H) (Its z) (strItems z) := fun U' H' k => by
  refine ⟨show z.cps.size ≤ _ by unfold strItems; rw [List.length_map, Array.length_toList]; exact Nat.le_refl _, fun i d hd => ?_⟩
  unfold strItems at hd
  rw [List.getElem?_map, Array.getElem?_toList] at hd
  cases e : z.cps[i]? with
  | none => rw [e] at hd; cases hd
  | some c =>
    rw [e] at hd
    cases hd
    refine ⟨(Array.getElem?_eq_some_iff.mp e).1, fun y H'' ⟨e1, c', e2, e3⟩ => ?_⟩
    subst e1
    rw [e] at e2
    cases e2
    rw [e3]
    exact ⟨Same.refl _, .str _⟩
def itemsD : D → Out (List D)
  | .list ds => .ok ds
  | .tuple ds => .ok ds
  | .str z => .ok (strItems z)
  | _ => .stuck
theorem di_plain {b : Bool} {tg e : Expr} {f : Rho → Out D} (h : DE X H0 W (bMd b) e f) : DI X H0 W b tg e fun ρ => (f ρ).bind itemsD :=
  PI.imp (PI.or (pi_list h) (PI.or (pi_tup h) (pi_str h))) fun σ H R ⟨ρ, U, P, q⟩ => by
    replace q : PostI X W b σ H U R ((f ρ).bind itemsD) := q
    cases ef : f ρ with
    | exc c fs =>
      rw [ef] at q
      exact .inl ⟨ρ, U, P, by rw [ef]; exact q⟩
    | stuck =>
      rw [ef] at q
      exact q.elim
    | ok d =>
      rw [ef] at q
      cases d with
      | list ds =>
        refine .inl ⟨ρ, U, P, ?_⟩
        rw [ef]
        intro v H' s r
        obtain ⟨a, xs, rfl, hb, h1, t1⟩ := repM_lst r
        exact ⟨a, rfl, ⟨xs, .inl h1⟩, q _ H' s (jd_list hb h1 t1)⟩
      | tuple ds =>
        refine .inr (.inl ⟨ρ, U, P, ?_⟩)
        rw [ef]
        intro v H' s r
        obtain ⟨a, xs, rfl, h1, t1⟩ := repM_tup r
        have h2 : SqT X.K H' a xs := h1.elim (fun q => .inl q.2) fun q => q.sq H'
        exact ⟨a, rfl, ⟨xs, h2⟩, q _ H' s (jd_tup h1 t1)⟩
      | str z =>
        refine .inr (.inr ⟨ρ, U, P, ?_⟩)
        rw [ef]
        intro v H' s r
        obtain rfl := repM_str r
        exact ⟨z, rfl, q _ H' s (jd_str z)⟩
      | _ => exact q.elim
/-! ### range -/
def rangeI (lo : Int) (n : Nat) : List D := (List.range n).map fun (i : Nat) => .int (lo + (i : Int))
theorem jd_range {K : PySem.W.Frag} {b : Bool} {U : Addr → Prop} {H : Hp} (lo : Int) (n : Nat) : JD K (Kb b U H) (Itr lo n) (rangeI lo n) := fun U' H' k => by
  refine ⟨show n ≤ _ by unfold rangeI; rw [List.length_map, List.length_range]; exact Nat.le_refl _, fun i d hd => ?_⟩
  unfold rangeI at hd
  rw [List.getElem?_map] at hd
  by_cases hi : i < n
  · rw [List.getElem?_range hi] at hd
    cases hd
    refine ⟨hi, fun y H'' ⟨e1, e2⟩ => ?_⟩
    subst e1 e2
    exact ⟨Same.refl _, .int _⟩
  · rw [List.getElem?_eq_none (by simpa using hi)] at hd
    cases hd
def okR (i : Int) : Bool := decide (-(2 ^ 62) ≤ i) && decide (i < 2 ^ 62)
theorem okR_ok {i : Int} (h : okR i = true) : -(2 ^ 62) ≤ i ∧ i < 2 ^ 62 := by
  unfold okR at h
  simp only [Bool.and_eq_true, decide_eq_true_eq] at h
  exact h
def range1D : List D → Out (List D)
  | [.int j] => if okR j = true then .ok (rangeI 0 j.toNat) else .stuck
  | _ => .stuck
def range2D : List D → Out (List D)
  | [.int i, .int j] => if okR i = true ∧ okR j = true then .ok (rangeI i (j - i).toNat) else .stuck
  | _ => .stuck
theorem di_args {b : Bool} {tg e : Expr} {ta : TA → TI} {f : Rho → Out (List D)} {g : List D → Out (List D)} (h : PI X tg e (ta (tDA X H0 W b f)))
    (hta : ∀ σ H R (t : List V → Hp → Prop), tDA X H0 W b f σ H t → (∀ vs H1, t vs H1 → ta (fun _ _ q => q vs H1) σ H R) → ta (tDA X H0 W b f) σ H R)
    (row : ∀ σ U H vs ds R, (∀ p, H p = none → ¬ U p) → RepL X.K U H vs ds b → PostI X W b σ H U R (g ds) → ta (fun _ _ q => q vs H) σ H R)
    (hind : ∀ σ H H1 R vs, ta (fun _ _ q => q vs H1) σ H1 R → ta (fun _ _ q => q vs H1) σ H R) : DI X H0 W b tg e fun ρ => (f ρ).bind g :=
  PI.imp h fun σ H R ⟨ρ, U, P, q⟩ => by
    replace q : PostI X W b σ H U R ((f ρ).bind g) := q
    refine hta σ H R (fun vs H1 => ta (fun _ _ q => q vs H1) σ H R) ⟨ρ, U, P, ?_⟩ fun vs H1 h => h
    revert q
    cases ef : f ρ with
    | exc c fs => exact fun q => q
    | stuck => exact fun q => q
    | ok ds =>
      intro q vs H1 s1 r1
      refine hind σ H H1 R vs (row σ U H1 vs ds R (fun p hp => (P.same s1).fresh hp) r1 ?_)
      replace q : PostI X W b σ H U R (g ds) := q
      revert q
      cases g ds with
      | exc c fs => exact fun q cls dd H' s' x => q cls dd H' (s1.trans s') x
      | stuck => exact fun q => q
      | ok es => exact fun q J H' s' j => q J H' (s1.trans s') j
theorem tDA.mono {b : Bool} {f : Rho → Out (List D)} {σ : L2.St} {H : Hp} {Q Q' : List V → Hp → Prop} (h : tDA X H0 W b f σ H Q) (i : ∀ v H', Q v H' → Q' v H') : tDA X H0 W b f σ H Q' := by
  obtain ⟨ρ, U, P, q⟩ := h
  refine ⟨ρ, U, P, ?_⟩
  revert q
  cases f ρ with
  | ok d => exact fun q v H' s r => i v H' (q v H' s r)
  | exc c fs => exact fun q => q
  | stuck => exact fun q => q
theorem repL_ints1 {K : PySem.W.Frag} {U : Addr → Prop} {H : Hp} {vs : List V} {i : Int} : ∀ {b : Bool}, RepL K U H vs [.int i] b → vs = [.int i]
  | true, r => by
    obtain ⟨v, rfl, r1⟩ := breps1 r
    rw [r1.int]
  | false, r => by
    have r : Reps K U H vs [.int i] := r
    cases r with
    | cons r t =>
      cases r
      cases t
      rfl
theorem repL_ints2 {K : PySem.W.Frag} {U : Addr → Prop} {H : Hp} {vs : List V} {i j : Int} : ∀ {b : Bool}, RepL K U H vs [.int i, .int j] b → vs = [.int i, .int j]
  | true, r => by
    obtain ⟨v, u, rfl, r1, r2⟩ := breps2 r
    rw [r1.int, r2.int]
  | false, r => by
    obtain ⟨v, u, rfl, r1, r2⟩ := reps2 (show Reps K U H vs [.int i, .int j] from r)
    cases r1
    cases r2
    rfl
theorem di_range1 {b : Bool} {tg a : Expr} {f : Rho → Out (List D)} {p pos : Pos} (hg : Gl X "range") (hm : X.mg "range" = none) (ha : DA X H0 W b [a] f) (hs : starEach [a] X.env = [(false, eval a X.env)]) : DI X H0 W b tg (.Call (.Name "range" p) [a] [] pos) fun ρ => (f ρ).bind range1D :=
  di_args (ta := iRng1) (pi_range1 hg hm ha hs) (fun σ H R t h i => tDA.mono h i) (fun σ U H vs ds R hf r q => by
    unfold range1D at q
    split at q
    · split at q
      · rename_i hj
        exact ⟨_, repL_ints1 r, (okR_ok hj).1, (okR_ok hj).2, q _ H (Same.refl H) (jd_range 0 _)⟩
      · exact q.elim
    · exact q.elim) fun σ H H1 R vs h => h
theorem di_range2 {b : Bool} {tg a a2 : Expr} {f : Rho → Out (List D)} {p pos : Pos} (hg : Gl X "range") (hm : X.mg "range" = none) (ha : DA X H0 W b [a, a2] f) (hs : starEach [a, a2] X.env = [(false, eval a X.env), (false, eval a2 X.env)]) (hs2 : starEach [a2] X.env = [(false, eval a2 X.env)]) :
    DI X H0 W b tg (.Call (.Name "range" p) [a, a2] [] pos) fun ρ => (f ρ).bind range2D :=
  di_args (ta := iRng2) (pi_range2 hg hm ha hs hs2) (fun σ H R t h i => tDA.mono h i) (fun σ U H vs ds R hf r q => by
    unfold range2D at q
    split at q
    · split at q
      · rename_i hj
        exact ⟨_, _, repL_ints2 r, ⟨(okR_ok hj.1).1, (okR_ok hj.1).2, (okR_ok hj.2).1, (okR_ok hj.2).2⟩, q _ H (Same.refl H) (jd_range _ _)⟩
      · exact q.elim
    · exact q.elim) fun σ H H1 R vs h => h
/-! ### zip, enumerate -/
def zipI (xs ys : List D) : List D := (xs.zip ys).map fun p => .tuple [p.1, p.2]
theorem zipI_get {xs ys : List D} {i : Nat} {d : D} (h : (zipI xs ys)[i]? = some d) : ∃ x y, xs[i]? = some x ∧ ys[i]? = some y ∧ d = .tuple [x, y] := by
  unfold zipI at h
  rw [List.getElem?_map] at h
  cases e : (xs.zip ys)[i]? with
  | none => rw [e] at h; cases h
  | some p =>
    rw [e] at h
    cases h
    obtain ⟨h1, h2⟩ := List.getElem?_zip_eq_some.mp e
    exact ⟨_, _, h1, h2, rfl⟩
theorem zipI_length (xs ys : List D) : (zipI xs ys).length = min xs.length ys.length := by
  unfold zipI
  rw [List.length_map, List.length_zip]
theorem rep_pair {K : PySem.W.Frag} {U : Addr → Prop} {H : Hp} {T : Addr} {x y : V} {dx dy : D} (hf : ∀ p, H p = none → ¬ U p) (hT : H T = none) (r1 : Rep K U H x dx) (r2 : Rep K U H y dy) : Same H (upd H T (.tup [x, y])) ∧ Rep K U (upd H T (.tup [x, y])) (.ref T) (.tuple [dx, dy]) :=
  ⟨same_new hT, .tup (.inl ⟨hf T hT, .inl upd_same⟩) (.cons (r1.mono (Kp.same (same_new hT))) (.cons (r2.mono (Kp.same (same_new hT))) .nil))⟩
theorem jd_zipL {K : PySem.W.Frag} {b : Bool} {U : Addr → Prop} {H : Hp} {a a2 : Addr} {xs ys : List V} {ds es : List D} (hb : b = false → ¬ U a) (h : Rd H a (.lst xs)) (r : Reps K U H xs ds) (hb2 : b = false → ¬ U a2) (h2 : Rd H a2 (.lst ys)) (r2 : Reps K U H ys es) :
    JD K (Kb b U H) (Itz K a a2) (zipI ds es) := fun U' H' k => by
  have h' : SqL K H' a xs := .inl (k.rd (K := K) hb h)
  have h2' : SqL K H' a2 ys := .inl (k.rd (K := K) hb2 h2)
  have r' := k.seq r
  have r2' := k.seq r2
  refine ⟨⟨xs, ys, h', h2', ?_⟩, fun i d hd => ?_⟩
  · rw [r'.length, r2'.length, zipI_length]
    omega
  · obtain ⟨dx, dy, e1, e2, rfl⟩ := zipI_get hd
    obtain ⟨x, hx, rx⟩ := r'.get e1
    obtain ⟨y, hy, ry⟩ := r2'.get e2
    refine ⟨⟨xs, ys, x, y, h', h2', hx, hy⟩, fun v H'' ⟨T, x', y', e3, hT, e4, e5, e6⟩ => ?_⟩
    have e5 := e5 xs h'
    have e6 := e6 ys h2'
    rw [hx] at e5
    rw [hy] at e6
    cases e5
    cases e6
    rw [e3, e4]
    exact rep_pair k.1 hT rx ry
theorem jd_zipT {K : PySem.W.Frag} {b : Bool} {U : Addr → Prop} {H : Hp} {a a2 : Addr} {xs ys : List V} {ds es : List D} (h : (¬ U a ∧ Rd H a (.tup xs)) ∨ WrT K a xs) (r : Reps K U H xs ds) (h2 : (¬ U a2 ∧ Rd H a2 (.tup ys)) ∨ WrT K a2 ys) (r2 : Reps K U H ys es) :
    JD K (Kb b U H) (RZ.ItzT K a a2) (zipI ds es) := fun U' H' k => by
  have h' : SqT K H' a xs := kb_tup k h
  have h2' : SqT K H' a2 ys := kb_tup k h2
  have r' := k.seq r
  have r2' := k.seq r2
  refine ⟨⟨xs, ys, h', h2', ?_⟩, fun i d hd => ?_⟩
  · rw [r'.length, r2'.length, zipI_length]
    omega
  · obtain ⟨dx, dy, e1, e2, rfl⟩ := zipI_get hd
    obtain ⟨x, hx, rx⟩ := r'.get e1
    obtain ⟨y, hy, ry⟩ := r2'.get e2
    refine ⟨⟨xs, ys, x, y, h', h2', hx, hy⟩, fun v H'' ⟨T, x', y', e3, hT, e4, e5, e6⟩ => ?_⟩
    have e5 := e5 xs h'
    have e6 := e6 ys h2'
    rw [hx] at e5
    rw [hy] at e6
    cases e5
    cases e6
    rw [e3, e4]
    exact rep_pair k.1 hT rx ry
def zipD : List D → Out (List D)
  | [.list xs, .list ys] => .ok (zipI xs ys)
  | [.tuple xs, .tuple ys] => .ok (zipI xs ys)
  | _ => .stuck
def enumI (xs : List D) : List D := xs.zipIdx.map fun p => .tuple [.int (p.2 : Nat), p.1]
def enumD : List D → Out (List D)
  | [.list xs] => .ok (enumI xs)
  | _ => .stuck
theorem repL_two {K : PySem.W.Frag} {U : Addr → Prop} {H : Hp} {vs : List V} {d e : D} : ∀ {b : Bool}, RepL K U H vs [d, e] b → ∃ v u, vs = [v, u] ∧ RepM K U H H v d (bMd b) ∧ RepM K U H H u e (bMd b)
  | true, r => breps2 r
  | false, r => reps2 r
theorem repL_one {K : PySem.W.Frag} {U : Addr → Prop} {H : Hp} {vs : List V} {d : D} : ∀ {b : Bool}, RepL K U H vs [d] b → ∃ v, vs = [v] ∧ RepM K U H H v d (bMd b)
  | true, r => breps1 r
  | false, r => by
    have r : Reps K U H vs [d] := r
    cases r with
    | cons r1 t =>
      cases t
      exact ⟨_, rfl, r1⟩
theorem di_zip {b : Bool} {e e2 : Expr} {f : Rho → Out (List D)} {p pos tpos : Pos} {elts : List Expr} {kk : Nat} (hg : Gl X "zip") (hm : X.mg "zip" = none) (ha : DA X H0 W b [e, e2] f)
    (hs : starEach [e, e2] X.env = (false, eval e X.env) :: starEach [e2] X.env) (hpl : (backTo pos (starEach [e2] X.env)).any (·.1) = false) : DI X H0 W b (.Tuple elts kk tpos) (.Call (.Name "zip" p) [e, e2] [] pos) fun ρ => (f ρ).bind zipD :=
  di_args (ta := RZ.iZipA X.K) (RZ.pi_zipA hg hm ha hs hpl) (fun σ H R t h i => tDA.mono h i) (fun σ U H vs ds R hf r q => by
    unfold zipD at q
    split at q
    · obtain ⟨v, u, rfl, r1, r2⟩ := repL_two r
      obtain ⟨a, xs, rfl, h1, h2, h3⟩ := repM_lst r1
      obtain ⟨a2, ys, rfl, h4, h5, h6⟩ := repM_lst r2
      exact ⟨a, a2, xs, ys, rfl, .inl ⟨.inl h2, .inl h5, q _ H (Same.refl H) (jd_zipL h1 h2 h3 h4 h5 h6)⟩⟩
    · obtain ⟨v, u, rfl, r1, r2⟩ := repL_two r
      obtain ⟨a, xs, rfl, h1, h2⟩ := repM_tup r1
      obtain ⟨a2, ys, rfl, h3, h4⟩ := repM_tup r2
      have s1 : SqT X.K H a xs := h1.elim (fun q => .inl q.2) fun q => q.sq H
      have s2 : SqT X.K H a2 ys := h3.elim (fun q => .inl q.2) fun q => q.sq H
      exact ⟨a, a2, xs, ys, rfl, .inr ⟨s1, s2, q _ H (Same.refl H) (jd_zipT h1 h2 h3 h4)⟩⟩
    · exact q.elim) fun σ H H1 R vs h => h
theorem jd_enum {K : PySem.W.Frag} {b : Bool} {U : Addr → Prop} {H : Hp} {a : Addr} {xs : List V} {ds : List D} (hb : b = false → ¬ U a) (h : Rd H a (.lst xs)) (r : Reps K U H xs ds) :
    JD K (Kb b U H) (Ite K a) (enumI ds) := fun U' H' k => by
  have h' : SqL K H' a xs := .inl (k.rd (K := K) hb h)
  have r' := k.seq r
  refine ⟨⟨xs, h', ?_⟩, fun i d hd => ?_⟩
  · rw [r'.length]
    unfold enumI
    rw [List.length_map, List.length_zipIdx]
    exact Nat.le_refl _
  · unfold enumI at hd
    rw [List.getElem?_map, List.getElem?_zipIdx] at hd
    cases e : ds[i]? with
    | none => rw [e] at hd; cases hd
    | some dx =>
      rw [e] at hd
      obtain ⟨x, hx, rx⟩ := r'.get e
      refine ⟨⟨xs, x, h', hx⟩, fun v H'' ⟨T, x', e3, hT, e4, e5⟩ => ?_⟩
      have e5 := e5 xs h'
      rw [hx] at e5
      cases e5
      have hd' : PyData.tuple [.int ((0 + i : Nat) : Int), dx] = d := Option.some.inj hd
      rw [← hd', e3, e4, Nat.zero_add]
      exact rep_pair k.1 hT (.int _) rx
theorem di_enum {b : Bool} {e : Expr} {f : Rho → Out (List D)} {p pos tpos : Pos} {elts : List Expr} {kk : Nat} (hg : Gl X "enumerate") (hm : X.mg "enumerate" = none) (ha : DA X H0 W b [e] f)
    (hs : starEach [e] X.env = [(false, eval e X.env)]) : DI X H0 W b (.Tuple elts kk tpos) (.Call (.Name "enumerate" p) [e] [] pos) fun ρ => (f ρ).bind enumD :=
  di_args (ta := iEnum X.K) (pi_enum hg hm ha hs) (fun σ H R t h i => tDA.mono h i) (fun σ U H vs ds R hf r q => by
    unfold enumD at q
    split at q
    · obtain ⟨v, rfl, r1⟩ := repL_one r
      obtain ⟨a, xs, rfl, h1, h2, h3⟩ := repM_lst r1
      exact ⟨a, xs, rfl, .inl h2, q _ H (Same.refl H) (jd_enum h1 h2 h3)⟩
    · exact q.elim) fun σ H H1 R vs h => h
end
end Mp
namespace Mp
open PySem PySem.Spec PyProof.Rows L2
/-! ## slots written -/
theorem SlotR.mono {K : PySem.W.Frag} {H0 : Ent} {U U' : Addr → Prop} {H H' : Hp} (k : Kp U U' H H') (hu : ∀ a, U a → U' a) {v : Option (Option V)} : ∀ {r : Option (Option (Bool × D))}, (∀ d a, r = some (some (true, d)) → v = some (some (.ref a)) → ∀ o, H a = some o → H' a = some o) → SlotR K H0 U H v r → SlotR K H0 U' H' v r
  | some (some (false, d)), _, ⟨x, e, r⟩ => ⟨x, e, r.mono k⟩
  | some (some (true, d)), h, ⟨a, e, u, h0, r⟩ => ⟨a, e, hu a u, h0, r.mono k (h d a rfl e)⟩
  | some none, _, _ => trivial
  | none, _, _ => trivial
/-- slot i forgotten or given a value that nobody owns -/
theorem Pt.set {K : PySem.W.Frag} {H0 : Ent} {σ : L2.St} {H : Hp} {ρ : Rho} {U : Addr → Prop} (P : Pt K H0 σ H ρ U) (i : Nat) {v : V} {d : D} (r : Rep K U H v d) : Pt K H0 (σ.set i (some v)) H (ρ.set i (some (false, d))) U := by
  have hl : σ.length = ρ.length := P.len
  refine ⟨by rw [List.length_set, List.length_set]; exact hl, fun j => ?_, fun j k d e a h1 h2 h3 h4 => ?_, P.ud, P.bu, P.bd, P.s0⟩
  · by_cases hij : i = j
    · subst hij
      by_cases hi : i < ρ.length
      · rw [List.getElem?_set_self hi, List.getElem?_set_self (by rw [hl]; exact hi)]
        exact ⟨v, rfl, r⟩
      · rw [List.getElem?_eq_none (l := ρ.set i _) (by rw [List.length_set]; omega)]
        trivial
    · rw [List.getElem?_set_ne hij, List.getElem?_set_ne hij]
      exact P.sl j
  · have ne : ∀ {j : Nat} {d : D}, (ρ.set i (some (false, d)))[j]? = (ρ.set i (some (false, d)))[j]? := rfl
    have hj : i ≠ j := by
      rintro rfl
      by_cases hi : i < ρ.length
      · rw [List.getElem?_set_self hi] at h1
        cases h1
      · rw [List.getElem?_eq_none (by rw [List.length_set]; omega)] at h1
        cases h1
    have hk : i ≠ k := by
      rintro rfl
      by_cases hi : i < ρ.length
      · rw [List.getElem?_set_self hi] at h2
        cases h2
      · rw [List.getElem?_eq_none (by rw [List.length_set]; omega)] at h2
        cases h2
    rw [List.getElem?_set_ne hj] at h1 h3
    rw [List.getElem?_set_ne hk] at h2 h4
    exact P.ne j k d e a h1 h2 h3 h4
theorem Pt.clear {K : PySem.W.Frag} {H0 : Ent} {σ : L2.St} {H : Hp} {ρ : Rho} {U : Addr → Prop} (P : Pt K H0 σ H ρ U) (i : Nat) (o : Option V) : Pt K H0 (σ.set i o) H (ρ.set i none) U := by
  have hl : σ.length = ρ.length := P.len
  refine ⟨by rw [List.length_set, List.length_set]; exact hl, fun j => ?_, fun j k d e a h1 h2 h3 h4 => ?_, P.ud, P.bu, P.bd, P.s0⟩
  · by_cases hij : i = j
    · subst hij
      by_cases hi : i < ρ.length
      · rw [List.getElem?_set_self hi]
        trivial
      · rw [List.getElem?_eq_none (l := ρ.set i _) (by rw [List.length_set]; omega)]
        trivial
    · rw [List.getElem?_set_ne hij, List.getElem?_set_ne hij]
      exact P.sl j
  · have hj : i ≠ j := by
      rintro rfl
      by_cases hi : i < ρ.length
      · rw [List.getElem?_set_self hi] at h1
        cases h1
      · rw [List.getElem?_eq_none (by rw [List.length_set]; omega)] at h1
        cases h1
    have hk : i ≠ k := by
      rintro rfl
      by_cases hi : i < ρ.length
      · rw [List.getElem?_set_self hi] at h2
        cases h2
      · rw [List.getElem?_eq_none (by rw [List.length_set]; omega)] at h2
        cases h2
    rw [List.getElem?_set_ne hj] at h1 h3
    rw [List.getElem?_set_ne hk] at h2 h4
    exact P.ne j k d e a h1 h2 h3 h4
def wipeR (ρ : Rho) : List Nat → Rho
  | [] => ρ
  | v :: vs => (wipeR ρ vs).set v none
theorem Pt.wipe {K : PySem.W.Frag} {H0 : Ent} {σ : L2.St} {H : Hp} {ρ : Rho} {U : Addr → Prop} (P : Pt K H0 σ H ρ U) : ∀ vs, Pt K H0 (L2.wipe σ vs) H (wipeR ρ vs) U
  | [] => P
  | v :: vs => (P.wipe vs).clear v none
/-- the heap has changed, what is owned too: no slot owns what was written to -/
theorem Pt.kp {K : PySem.W.Frag} {H0 : Ent} {σ : L2.St} {H H' : Hp} {ρ : Rho} {U U' : Addr → Prop} (P : Pt K H0 σ H ρ U) (k : Kp U U' H H') (hu : ∀ a, U a → U' a) (hs : ∀ (i : Nat) (d : D) (a : Addr), ρ[i]? = some (some (true, d)) → σ[i]? = some (some (V.ref a)) → ∀ o, H a = some o → H' a = some o)
    (ud : ∀ a, U' a → ∃ o, H' a = some o ∧ MuO o) (s0 : Same H0.h H') : Pt K H0 σ H' ρ U' :=
  ⟨P.len, fun i => (P.sl i).mono k hu (fun d a h1 h2 => hs i d a h1 h2), P.ne, ud, fun a z => hu a (P.bu a z), P.bd, s0⟩
/-! ## targets -/
inductive Tg where
  | nm (i : Nat)
  | tup (ts : List Tg)
mutual
def bindT : Tg → D → Rho → Option Rho
  | .nm i, d, ρ => some (ρ.set i (some (false, d)))
  | .tup ts, d, ρ => match d with
    | .tuple ds => bindTs ts ds ρ
    | _ => none
def bindTs : List Tg → List D → Rho → Option Rho
  | [], [], ρ => some ρ
  | t :: ts, d :: ds, ρ => (bindT t d ρ).bind fun ρ' => bindTs ts ds ρ'
  | _, _, _ => none
end
mutual
def Tg.ixs : Tg → List Nat
  | .nm i => [i]
  | .tup ts => ixsL ts
def ixsL : List Tg → List Nat
  | [] => []
  | t :: ts => t.ixs ++ ixsL ts
end
def tDG (X : Cx) (H0 : Ent) (t : Tg) : TG := fun v σ H Q => ∃ ρ U d ρ', Pt X.K H0 σ H ρ U ∧ Rep X.K U H v d ∧ bindT t d ρ = some ρ' ∧ ∀ σ', Pt X.K H0 σ' H ρ' U → (∀ j, j ∉ t.ixs → σ'[j]? = σ[j]?) → Q σ' H
def tDGs (X : Cx) (H0 : Ent) (ts : List Tg) : TGs := fun vs σ H Q => ∃ ρ U ds ρ', Pt X.K H0 σ H ρ U ∧ Reps X.K U H vs ds ∧ bindTs ts ds ρ = some ρ' ∧ ∀ σ', Pt X.K H0 σ' H ρ' U → (∀ j, j ∉ ixsL ts → σ'[j]? = σ[j]?) → Q σ' H
abbrev DG (X : Cx) (H0 : Ent) (e : Expr) (t : Tg) : Prop := PG X e (tDG X H0 t)
abbrev DGs (X : Cx) (H0 : Ent) (e : List Expr) (t : List Tg) : Prop := PGs X e (tDGs X H0 t)
section
variable {X : Cx} {H0 : Ent}
theorem PG.imp {e : Expr} {t t' : TG} (h : PG X e t) (i : ∀ v σ H Q, t' v σ H Q → t v σ H Q) : PG X e t' := ⟨fun pins s σ H v u Q I r q => h.run pins s σ H v u Q I r (i v σ H Q q)⟩
theorem PGs.imp {e : List Expr} {t t' : TGs} (h : PGs X e t) (i : ∀ v σ H Q, t' v σ H Q → t v σ H Q) : PGs X e t' := ⟨fun pins s σ H v u Q I r q => h.run pins s σ H v u Q I r (i v σ H Q q)⟩
theorem dg_nm {i : Nat} {x : Str} {pos : Pos} (hN : X.N.Nodup) (hi : X.N[i]? = some x) (hx : Loc X.env.scope x) (hf : X.fn x = true ∨ X.env.scope.names.lookup x = some .local) : DG X H0 (.Name x pos) (.nm i) :=
  PG.imp (pg_name hN hi hx hf) fun v σ H Q ⟨ρ, U, d, ρ', P, r, hb, q⟩ => by
    simp only [bindT, Option.some.injEq] at hb
    subst hb
    refine q _ (P.set i r) fun j hj => List.getElem?_set_ne (fun e => hj ?_)
    subst e
    exact List.mem_singleton_self _
theorem dgs_nil : DGs X H0 [] [] := PGs.imp pgs_nil fun v σ H Q ⟨ρ, U, ds, ρ', P, r, hb, q⟩ => by
  cases ds with
  | nil =>
    simp only [bindTs, Option.some.injEq] at hb
    subst hb
    cases r
    exact ⟨rfl, q σ P fun _ _ => rfl⟩
  | cons d ds => simp [bindTs] at hb
theorem dgs_cons {e : Expr} {es : List Expr} {t : Tg} {ts : List Tg} (h : DG X H0 e t) (hs : DGs X H0 es ts) (ha : (assignEach (e :: es) X.env).map (·.2) = assign e X.env :: (assignEach es X.env).map (·.2)) : DGs X H0 (e :: es) (t :: ts) :=
  PGs.imp (pgs_cons h hs ha) fun vs σ H Q ⟨ρ, U, ds, ρ', P, r, hb, q⟩ => by
    cases ds with
    | nil => simp [bindTs] at hb
    | cons d ds =>
      cases r with
      | cons r1 r2 =>
        simp only [bindTs, Option.bind_eq_some_iff] at hb
        obtain ⟨ρ1, b1, b2⟩ := hb
        refine ⟨_, _, rfl, ρ, U, d, ρ1, P, r1, b1, fun σ1 P1 k1 => ⟨ρ1, U, ds, ρ', P1, r2, b2, fun σ2 P2 k2 => q σ2 P2 fun j hj => ?_⟩⟩
        simp only [ixsL, List.mem_append, not_or] at hj
        rw [k2 j hj.2, k1 j hj.1]
mutual
theorem bindT_len : ∀ {t : Tg} {d : D} {ρ ρ' : Rho}, bindT t d ρ = some ρ' → ρ'.length = ρ.length
  | .nm i, d, ρ, ρ', h => by
    simp only [bindT, Option.some.injEq] at h
    rw [← h, List.length_set]
  | .tup ts, d, ρ, ρ', h => by
    unfold bindT at h
    split at h
    · exact bindTs_lenR h
    · cases h
theorem bindTs_lenR : ∀ {ts : List Tg} {ds : List D} {ρ ρ' : Rho}, bindTs ts ds ρ = some ρ' → ρ'.length = ρ.length
  | [], [], _, _, h => by
    simp only [bindTs, Option.some.injEq] at h
    rw [h]
  | t :: ts, d :: ds, ρ, ρ', h => by
    simp only [bindTs, Option.bind_eq_some_iff] at h
    obtain ⟨ρ1, b1, b2⟩ := h
    rw [bindTs_lenR b2, bindT_len b1]
  | [], _ :: _, _, _, h => by simp [bindTs] at h
  | _ :: _, [], _, _, h => by simp [bindTs] at h
end
theorem bindTs_len : ∀ {ts : List Tg} {ds : List D} {ρ ρ' : Rho}, bindTs ts ds ρ = some ρ' → ts.length = ds.length
  | [], [], _, _, _ => rfl
  | t :: ts, d :: ds, ρ, ρ', h => by
    simp only [bindTs, Option.bind_eq_some_iff] at h
    obtain ⟨ρ1, _, b2⟩ := h
    rw [List.length_cons, List.length_cons, bindTs_len b2]
  | [], _ :: _, _, _, h => by simp [bindTs] at h
  | _ :: _, [], _, _, h => by simp [bindTs] at h
theorem dg_tup {es : List Expr} {k : Nat} {ts : List Tg} {pos : Pos} (hc : X.calm = true) (h : DGs X H0 es ts) (hn : (assignEach es X.env).length = ts.length) (hst : (assignEach es X.env).findIdx? (·.1) = none) : DG X H0 (.Tuple es k pos) (.tup ts) :=
  PG.imp (pg_tup hc h hn hst) fun v σ H Q ⟨ρ, U, d, ρ', P, r, hb, q⟩ => by
    unfold bindT at hb
    split at hb
    · rename_i ds
      obtain ⟨a, xs, rfl, h1, t1⟩ := BRep.tup (.inl r)
      exact ⟨a, xs, rfl, h1, by rw [t1.length, bindTs_len hb], ρ, U, ds, ρ', P, t1, hb, q⟩
    · cases hb
end
/-! ## comprehensions -/
def noxO {α : Type} : Out α → Out α
  | .exc _ _ => .stuck
  | x => x
def consO : Option D → List D → List D
  | some y, r => y :: r
  | none, r => r
def lcL (g : D → Out (Option D)) : List D → Out (List D)
  | [] => .ok []
  | d :: ds => (g d).bind fun o => (lcL g ds).bind fun r => .ok (consO o r)
/-- one turn -/
def turnD (t : Tg) (ft : Rho → Out Bool) (fe : Rho → Out D) (ρ : Rho) (d : D) : Out (Option D) := match bindT t d ρ with
  | none => .stuck
  | some ρ' => (ft ρ').bind fun b => if b = true then (fe ρ').bind fun y => .ok (some y) else .ok none
abbrev W0 : WX := fun _ _ _ _ => False
theorem wipe_get {σ σ' : L2.St} : ∀ {vs : List Nat}, σ.length = σ'.length → (∀ j, j ∉ vs → σ'[j]? = σ[j]?) → L2.wipe σ' vs = L2.wipe σ vs := by
  have key : ∀ (vs : List Nat) (σ : L2.St) (j : Nat), (L2.wipe σ vs)[j]? = if j ∈ vs then (if j < σ.length then some none else none) else σ[j]? := by
    intro vs
    induction vs with
    | nil => intro σ j; simp [L2.wipe]
    | cons v vs ih =>
      intro σ j
      unfold L2.wipe
      by_cases hv : v = j
      · subst hv
        simp only [List.mem_cons, true_or, if_true]
        by_cases hl : v < σ.length
        · rw [List.getElem?_set_self (by rw [L2.wipe_length]; exact hl), if_pos hl]
        · rw [List.getElem?_eq_none (by rw [List.length_set, L2.wipe_length]; omega), if_neg hl]
      · rw [List.getElem?_set_ne hv, ih σ j]
        have : (j ∈ v :: vs) ↔ j ∈ vs := by
          rw [List.mem_cons]
          exact ⟨fun h => h.resolve_left fun e => hv e.symm, .inr⟩
        simp only [this]
  intro vs hl h
  refine List.ext_getElem? fun j => ?_
  rw [key, key, hl]
  by_cases hj : j ∈ vs
  · simp [hj]
  · simp [hj, h j hj]
def PTsD (X : Cx) (H0 : Ent) (W : WX) (ifs : List Expr) (f : Rho → Out Bool) : Prop := PTs X ifs (tDT X H0 W f)
section
variable {X : Cx} {H0 : Ent} {W : WX}
theorem PTs.imp {e : List Expr} {t t' : TT} (h : PTs X e t) (i : ∀ σ H Q, t' σ H Q → t σ H Q) : PTs X e t' := ⟨fun pins s σ H Q I q => h.run pins s σ H Q I (i σ H Q q)⟩
theorem dts_nil : PTsD X H0 W [] fun _ => .ok true := PTs.imp pts_nil fun σ H Q ⟨ρ, U, P, q⟩ => q H (Same.refl H)
theorem dts_one {c : Expr} {f : Rho → Out Bool} (h : DT X H0 W c f) : PTsD X H0 W [c] f := pts_one h
end
section
variable {X : Cx} {H0 : Ent} {W : WX}
theorem lcL_split {g : D → Out (Option D)} {d : D} {ds r : List D} (h : lcL g (d :: ds) = .ok r) : ∃ o r', g d = .ok o ∧ lcL g ds = .ok r' ∧ r = consO o r' := by
  unfold lcL at h
  cases e : g d with
  | exc c fs => rw [e] at h; cases h
  | stuck => rw [e] at h; cases h
  | ok o =>
    rw [e] at h
    replace h : ((lcL g ds).bind fun r => Out.ok (consO o r)) = .ok r := h
    cases e2 : lcL g ds with
    | exc c fs => rw [e2] at h; cases h
    | stuck => rw [e2] at h; cases h
    | ok r' =>
      rw [e2] at h
      cases h
      exact ⟨o, r', rfl, rfl, rfl⟩
theorem turnD_split {t : Tg} {ft : Rho → Out Bool} {fe : Rho → Out D} {ρ : Rho} {d : D} {o : Option D} (h : turnD t ft fe ρ d = .ok o) : ∃ ρ' b, bindT t d ρ = some ρ' ∧ ft ρ' = .ok b ∧ (if b = true then ∃ y, fe ρ' = .ok y ∧ o = some y else o = none) := by
  unfold turnD at h
  split at h
  · cases h
  · rename_i ρ' e
    refine ⟨ρ', ?_⟩
    cases e2 : ft ρ' with
    | exc c fs => rw [e2] at h; cases h
    | stuck => rw [e2] at h; cases h
    | ok b =>
      rw [e2] at h
      refine ⟨b, e, rfl, ?_⟩
      cases b with
      | false =>
        cases h
        rfl
      | true =>
        replace h : ((fe ρ').bind fun y => Out.ok (some y)) = .ok o := h
        cases e3 : fe ρ' with
        | exc c fs => rw [e3] at h; cases h
        | stuck => rw [e3] at h; cases h
        | ok y =>
          rw [e3] at h
          cases h
          exact ⟨y, rfl, rfl⟩
/-- what holds ahead of turn i -/
structure LcW (K : PySem.W.Frag) (H0 : Ent) (σ : L2.St) (H1 : Hp) (ρ : Rho) (U : Addr → Prop) (L : Addr) (tot rest : List D) (H : Hp) : Prop where
  pt : Pt K H0 σ H ρ fun a => U a ∨ a = L
  sm : Same H1 H
  acc : ∃ vs ds, H L = some (.lst vs) ∧ Reps K (fun a => U a ∨ a = L) H vs ds ∧ tot = ds ++ rest
theorem lc_rule {t : Tg} {fi : Rho → Out (List D)} {ft : Rho → Out Bool} {fe : Rho → Out D} {vs : List Nat} {σ : L2.St} {H : Hp} {Q : VK} (hvs : ∀ j ∈ t.ixs, j ∈ vs)
    (h : tD X H0 W .f (fun ρ => (fi ρ).bind fun ds => (noxO (lcL (turnD t ft fe (wipeR ρ vs)) ds)).bind lstD) σ H Q) :
    tLc (tDI X H0 W true fi) (tDG X H0 t) (tDT X H0 W0 ft) (tD X H0 W0 .v fe) vs σ H Q := by
  obtain ⟨ρ, U, P, q⟩ := h
  replace q : PostM X W .f σ H U Q ((fi ρ).bind fun ds => (noxO (lcL (turnD t ft fe (wipeR ρ vs)) ds)).bind lstD) := q
  refine ⟨ρ, U, P, ?_⟩
  revert q
  cases fi ρ with
  | exc c fs => exact fun q => q
  | stuck => exact fun q => q
  | ok ds =>
    intro q J H1 s1 jd L hL
    replace q : PostM X W .f σ H U Q ((noxO (lcL (turnD t ft fe (wipeR ρ vs)) ds)).bind lstD) := q
    cases etot : lcL (turnD t ft fe (wipeR ρ vs)) ds with
    | exc c fs =>
      rw [etot] at q
      exact q.elim
    | stuck =>
      rw [etot] at q
      exact q.elim
    | ok tot =>
      rw [etot] at q
      replace q : PostM X W .f σ H U Q (if tot.length ≤ sizeLine then .ok (.list tot) else .stuck) := q
      split at q
      case isFalse => exact q.elim
      rename_i hlen
      have P1 := P.same s1
      have hLU : ¬ U L := P1.fresh hL
      have k1 : Kp U (fun a => U a ∨ a = L) H1 (upd H1 L (.lst [])) := ⟨fun a o e _ => same_new hL a o e, fun a z => z.imp id fun e => by rw [e]; exact hL⟩
      have P2 : Pt X.K H0 (L2.wipe σ vs) (upd H1 L (.lst [])) (wipeR ρ vs) fun a => U a ∨ a = L := by
        refine (P1.wipe vs).kp k1 (fun a z => .inl z) (fun i d a _ _ o e => same_new hL a o e) (fun a z => ?_) (P1.s0.trans (same_new hL))
        rcases z with z | rfl
        · obtain ⟨o, e, m⟩ := P1.ud a z
          exact ⟨o, same_new hL a o e, m⟩
        · exact ⟨_, upd_same, .inl ⟨_, rfl⟩⟩
      refine ⟨fun i m H' => m = ds.length - i ∧ i ≤ ds.length ∧ ∃ rest, lcL (turnD t ft fe (wipeR ρ vs)) (ds.drop i) = .ok rest ∧ LcW X.K H0 (L2.wipe σ vs) H1 (wipeR ρ vs) U L tot rest H',
        ⟨ds.length, by simp, Nat.zero_le _, tot, by simpa using etot, P2, same_new hL, [], [], upd_same, .nil, rfl⟩, ?_⟩
      rintro i m H3 ⟨rfl, hi, rest, er, w⟩
      have kb : Kb true U H1 (fun a => U a ∨ a = L) H3 := ⟨fun p hp => w.pt.fresh hp, fun a z => z.imp id fun e => by rw [e]; exact hL, w.sm⟩
      obtain ⟨jstop, jgo⟩ := jd _ _ kb
      by_cases hlt : i < ds.length
      · have hd : ds[i]? = some ds[i] := List.getElem?_eq_getElem hlt
        obtain ⟨j1, j2⟩ := jgo i _ hd
        have edrop : ds.drop i = ds[i] :: ds.drop (i + 1) := List.drop_eq_getElem_cons hlt
        rw [edrop] at er
        obtain ⟨o, r', eg, er', hr⟩ := lcL_split er
        obtain ⟨ρ', bb, eb, et, ee⟩ := turnD_split eg
        refine .inr ⟨j1, fun H' => i + 1 ≤ ds.length ∧ ∃ rest, lcL (turnD t ft fe (wipeR ρ vs)) (ds.drop (i + 1)) = .ok rest ∧ LcW X.K H0 (L2.wipe σ vs) H1 (wipeR ρ vs) U L tot rest H', fun H' h => ⟨ds.length - (i + 1), by omega, rfl, h.1, h.2⟩, fun x H4 hy => ?_⟩
        obtain ⟨s4, rx⟩ := j2 x H4 hy
        have P4 := w.pt.same s4
        obtain ⟨as, ads, hacc, racc, htot⟩ := w.acc
        refine ⟨wipeR ρ vs, _, ds[i], ρ', P4, rx, eb, fun σ5 P5 k5 => ⟨?_, ρ', _, P5, ?_⟩⟩
        · have l5 : σ5.length = (L2.wipe σ vs).length := by
            have h1 := P5.len
            have h2 := P4.len
            have h3 : ρ'.length = (wipeR ρ vs).length := bindT_len eb
            omega
          rw [wipe_get l5.symm (fun j hj => k5 j fun z => hj (hvs j z))]
          have idem : ∀ (vs : List Nat) (σ : L2.St), L2.wipe (L2.wipe σ vs) vs = L2.wipe σ vs := fun vs σ => wipe_get (by rw [L2.wipe_length]) fun j hj => by
            have : ∀ (us : List Nat) (σ : L2.St), j ∉ us → (L2.wipe σ us)[j]? = σ[j]? := by
              intro us
              induction us with
              | nil => intro σ _; rfl
              | cons v us ih =>
                intro σ hj
                simp only [List.mem_cons, not_or] at hj
                unfold L2.wipe
                rw [List.getElem?_set_ne (fun e => hj.1 e.symm), ih σ hj.2]
            exact this vs σ hj
          exact idem vs σ
        · rw [et]
          intro H5 s5
          have keep5 : H5 L = some (.lst as) := s5 _ _ (s4 _ _ hacc)
          cases bb with
          | false =>
            simp only [Bool.false_eq_true, if_false] at ee ⊢
            subst ee
            exact ⟨hlt, r', er', ⟨(w.pt.same s4).same s5, w.sm.trans (s4.trans s5), as, ads, keep5, racc.mono (Kp.same (s4.trans s5)), by rw [htot, hr]; rfl⟩⟩
          | true =>
            simp only [if_true] at ee ⊢
            obtain ⟨y, ey, rfl⟩ := ee
            refine ⟨ρ', _, P5.same s5, ?_⟩
            rw [ey]
            intro yv H6 s6 ry
            have keep6 : H6 L = some (.lst as) := s6 _ _ keep5
            have s46 := s4.trans (s5.trans s6)
            have hl : as.length < sizeLine := by
              have h1 := racc.length
              have h2 : tot.length = ads.length + (y :: r').length := by rw [htot, hr, List.length_append]; rfl
              rw [List.length_cons] at h2
              omega
            refine ⟨as, keep6, hl, hlt, r', er', ?_⟩
            have k6 : Kp (fun a => U a ∨ a = L) (fun a => U a ∨ a = L) H6 (upd H6 L (.lst (as ++ [yv]))) := ⟨fun a o e n => by
              rw [upd_ne (fun z => n (.inr z))]
              exact e, fun a z => .inl z⟩
            refine ⟨(w.pt.same s46).kp k6 (fun a z => z) (fun j d a h1 h2 o e => ?_) (fun a z => ?_) ?_, ?_, as ++ [yv], ads ++ [y], upd_same, ?_, ?_⟩
            · have hne : a ≠ L := by
                rintro rfl
                have hs := (P1.wipe vs).sl j
                rw [h1, h2] at hs
                obtain ⟨a', e1, hu, _⟩ := hs
                cases e1
                exact hLU hu
              rw [upd_ne hne]
              exact e
            · by_cases hz : a = L
              · rw [hz]
                exact ⟨_, upd_same, .inl ⟨_, rfl⟩⟩
              · obtain ⟨o, e, m⟩ := (w.pt.same s46).ud a z
                exact ⟨o, by rw [upd_ne hz]; exact e, m⟩
            · intro a o e
              have hne : a ≠ L := by
                rintro rfl
                have := P1.s0 _ _ e
                rw [hL] at this
                cases this
              rw [upd_ne hne]
              exact s46 _ _ (w.pt.s0 _ _ e)
            · intro a o e
              have hne : a ≠ L := by
                rintro rfl
                rw [hL] at e
                cases e
              rw [upd_ne hne]
              exact s46 _ _ (w.sm _ _ e)
            · exact ((racc.mono (Kp.same s46)).mono k6).append (.cons (ry.mono k6) .nil)
            · rw [htot, hr]
              simp [consO]
      · have e : i = ds.length := by omega
        subst e
        rw [List.drop_length] at er
        cases er
        obtain ⟨as, ads, hacc, racc, htot⟩ := w.acc
        rw [List.append_nil] at htot
        subst htot
        exact .inl ⟨jstop, q _ _ (s1.trans w.sm) ⟨L, rfl, s1.free hL, as, hacc, racc⟩⟩
end
end Mp
namespace Mp
open PySem PySem.Spec PyProof.Rows L2
/-! ## statements -/
inductive SOut where
  | nx (ρ : Rho)
  | ret (d : D)
  | brk (ρ : Rho)
  | ct (ρ : Rho)
  | exc (c : Str) (fs : List (Str × D)) (ρ : Rho)
  | stuck
namespace SOut
def seq (x : SOut) (f : Rho → SOut) : SOut := match x with
  | .nx ρ => f ρ
  | y => y
end SOut
def Out.st {α : Type} (x : Out α) (ρ : Rho) (f : α → SOut) : SOut := match x with
  | .ok a => f a
  | .exc c fs => .exc c fs ρ
  | .stuck => .stuck
def PostS (X : Cx) (H0 : Ent) (W : WX) (Dn : Ends) (H : Hp) (U : Addr → Prop) : SOut → Prop
  | .nx ρ => ∀ σ' H' U', Kp U U' H H' → Pt X.K H0 σ' H' ρ U' → Dn.nx σ' H'
  | .brk ρ => ∀ σ' H' U', Kp U U' H H' → Pt X.K H0 σ' H' ρ U' → Dn.bk σ' H'
  | .ct ρ => ∀ σ' H' U', Kp U U' H H' → Pt X.K H0 σ' H' ρ U' → Dn.ct σ' H'
  | .ret d => ∀ v H', Same H0.h H' → Rep X.K H0.b H' v d → Dn.rt v H'
  | .exc c fs ρ => ∀ cls dd σ' H' U', Kp U U' H H' → Pt X.K H0 σ' H' ρ U' → ExR X.mg X.K H' c fs cls dd → W cls dd σ' H'
  | .stuck => False
theorem Kp.tr {U U1 U2 : Addr → Prop} {H H1 H2 : Hp} (a : Kp U U1 H H1) (b : Kp U1 U2 H1 H2) : Kp U U2 H H2 := by
  refine ⟨fun x o e n => b.k x o (a.k x o e n) fun z => ?_, fun x z => ?_⟩
  · rcases a.u x z with h | h
    · exact n h
    · rw [h] at e
      cases e
  · rcases b.u x z with h | h
    · exact a.u x h
    · by_cases hu : U x
      · exact .inl hu
      · refine .inr ?_
        cases q : H x with
        | none => rfl
        | some o =>
          rw [a.k x o q hu] at h
          cases h
theorem Kp.rfl {U : Addr → Prop} {H : Hp} : Kp U U H H := ⟨fun _ _ e _ => e, fun _ z => .inl z⟩
def tS (X : Cx) (H0 : Ent) (W : WX) (f : Rho → SOut) : TS := fun Dn σ H => ∃ ρ U, Pt X.K H0 σ H ρ U ∧ PostS X H0 W Dn H U (f ρ)
abbrev DS (X : Cx) (H0 : Ent) (W : WX) (st : Stmt) (f : Rho → SOut) : Prop := PS X st (tS X H0 W f)
abbrev DSs (X : Cx) (H0 : Ent) (W : WX) (st : List Stmt) (f : Rho → SOut) : Prop := PSs X st (tS X H0 W f)
section
variable {X : Cx} {H0 : Ent} {W : WX}
theorem PostS.later {Dn : Ends} {U U1 : Addr → Prop} {H H1 : Hp} (k : Kp U U1 H H1) : ∀ {r : SOut}, PostS X H0 W Dn H U r → PostS X H0 W Dn H1 U1 r
  | .nx ρ, q => fun σ' H' U' k' P => q σ' H' U' (k.tr k') P
  | .brk ρ, q => fun σ' H' U' k' P => q σ' H' U' (k.tr k') P
  | .ct ρ, q => fun σ' H' U' k' P => q σ' H' U' (k.tr k') P
  | .ret d, q => q
  | .exc c fs ρ, q => fun cls dd σ' H' U' k' P => q cls dd σ' H' U' (k.tr k') P
  | .stuck, q => q
/-- an expression's part in a statement -/
theorem PostS.expr {m : Md} {Dn : Ends} {σ : L2.St} {H : Hp} {ρ : Rho} {U : Addr → Prop} (P : Pt X.K H0 σ H ρ U) {r : Out D} {k : D → SOut} {Q : VK} (q : PostS X H0 W Dn H U (r.st ρ k))
    (h : ∀ d v H', r = .ok d → Same H H' → Pt X.K H0 σ H' ρ U → RepM X.K U H H' v d m → PostS X H0 W Dn H' U (k d) → Q v H') : PostM X W m σ H U Q r := by
  cases r with
  | ok d => exact fun v H' s rv => h d v H' rfl s (P.same s) rv (PostS.later (Kp.same s) q)
  | exc c fs => exact fun cls dd H' s x => q cls dd σ H' U (Kp.same s) (P.same s) x
  | stuck => exact q.elim
theorem PostS.test {Dn : Ends} {σ : L2.St} {H : Hp} {ρ : Rho} {U : Addr → Prop} (P : Pt X.K H0 σ H ρ U) {r : Out Bool} {k : Bool → SOut} {Q : Bool → Hp → Prop} (q : PostS X H0 W Dn H U (r.st ρ k))
    (h : ∀ d H', r = .ok d → Same H H' → Pt X.K H0 σ H' ρ U → PostS X H0 W Dn H' U (k d) → Q d H') : PostA X W σ H Q r := by
  cases r with
  | ok d => exact fun H' s => h d H' rfl s (P.same s) (PostS.later (Kp.same s) q)
  | exc c fs => exact fun cls dd H' s x => q cls dd σ H' U (Kp.same s) (P.same s) x
  | stuck => exact q.elim
theorem ds_never {st : Stmt} : DS X H0 W st fun _ => .stuck := PS.imp ps_never fun _ _ _ ⟨_, _, _, q⟩ => q.elim
theorem dss_nil : DSs X H0 W [] fun ρ => .nx ρ := PSs.imp pss_nil fun Dn σ H ⟨ρ, U, P, q⟩ => q σ H U Kp.rfl P
theorem dss_cons {st : Stmt} {rest : List Stmt} {f g : Rho → SOut} (h : DS X H0 W st f) (t : DSs X H0 W rest g) : DSs X H0 W (st :: rest) fun ρ => (f ρ).seq g :=
  PSs.imp (pss_cons h t) fun Dn σ H ⟨ρ, U, P, q⟩ => by
    refine ⟨ρ, U, P, ?_⟩
    replace q : PostS X H0 W Dn H U ((f ρ).seq g) := q
    revert q
    cases f ρ with
    | nx ρ1 => exact fun q σ' H' U' k P' => ⟨ρ1, U', P', PostS.later k q⟩
    | brk ρ1 => exact fun q => q
    | ct ρ1 => exact fun q => q
    | ret d => exact fun q => q
    | exc c fs ρ1 => exact fun q => q
    | stuck => exact fun q => q
theorem ds_pass {pos : Pos} : DS X H0 W (.Pass pos) fun ρ => .nx ρ := PS.imp ps_pass fun Dn σ H ⟨ρ, U, P, q⟩ => q σ H U Kp.rfl P
theorem ds_break {pos : Pos} : DS X H0 W (.Break pos) fun ρ => .brk ρ := PS.imp ps_break fun Dn σ H ⟨ρ, U, P, q⟩ => q σ H U Kp.rfl P
theorem ds_continue {pos : Pos} : DS X H0 W (.Continue pos) fun ρ => .ct ρ := PS.imp ps_continue fun Dn σ H ⟨ρ, U, P, q⟩ => q σ H U Kp.rfl P
theorem ds_doc {x : Str} {j} {p p2 : Pos} : DS X H0 W (.Expr (.Constant (.str x) j p) p2) fun ρ => .nx ρ := PS.imp ps_doc fun Dn σ H ⟨ρ, U, P, q⟩ => q σ H U Kp.rfl P
theorem ds_expr {e : Expr} {pos : Pos} {f : Rho → Out D} (h : DE X H0 W .b e f) (hs : swapsWith e none pos.line X.env = pure false) : DS X H0 W (.Expr e pos) fun ρ => (f ρ).st ρ fun _ => .nx ρ :=
  PS.imp (ps_expr h hs) fun Dn σ H ⟨ρ, U, P, q⟩ => ⟨ρ, U, P, PostS.expr P q fun d v H' _ s P' _ q' => q' σ H' U Kp.rfl P'⟩
theorem rep_out {σ : L2.St} {H' : Hp} {ρ : Rho} {U : Addr → Prop} (P : Pt X.K H0 σ H' ρ U) {v : V} {d : D} (r : Rep X.K U H' v d) : Rep X.K H0.b H' v d := r.mono (Kp.less P.bu)
theorem ds_ret {e : Expr} {pos : Pos} {f : Rho → Out D} (h : DE X H0 W .v e f) : DS X H0 W (.Return (some e) pos) fun ρ => (f ρ).st ρ .ret :=
  PS.imp (ps_ret h) fun Dn σ H ⟨ρ, U, P, q⟩ => ⟨ρ, U, P, PostS.expr P q fun d v H' _ s P' r q' => q' v H' P'.s0 (rep_out P' r)⟩
theorem ds_retN {pos : Pos} : DS X H0 W (.Return none pos) fun _ => .ret .none := PS.imp ps_retN fun Dn σ H ⟨ρ, U, P, q⟩ => q .non H P.s0 .non
theorem ds_if {c : Expr} {a b : List Stmt} {pos : Pos} {fc : Rho → Out Bool} {fa fb : Rho → SOut} (hc : DT X H0 W c fc) (ha : DSs X H0 W a fa) (hb : DSs X H0 W b fb) : DS X H0 W (.If c a b pos) fun ρ => (fc ρ).st ρ fun k => if k = true then fa ρ else fb ρ :=
  PS.imp (ps_if hc ha hb) fun Dn σ H ⟨ρ, U, P, q⟩ => ⟨ρ, U, P, PostS.test P q fun k H' _ s P' q' => by
    cases k with
    | true => exact ⟨ρ, U, P', q'⟩
    | false => exact ⟨ρ, U, P', q'⟩⟩
/-! ### assignments -/
def setV (i : Nat) (ρ : Rho) (d : D) : SOut := .nx (ρ.set i (some (false, d)))
def setF (i : Nat) (ρ : Rho) (d : D) : SOut := .nx (ρ.set i (some (true, d)))
theorem Pt.new {K : PySem.W.Frag} {σ : L2.St} {H H' : Hp} {ρ : Rho} {U : Addr → Prop} (P : Pt K H0 σ H' ρ U) (s : Same H H') (i : Nat) {a : Addr} {d : D} (hu : ¬ U a) (h0 : H0.h a = none) (r : Own K (fun b => U b ∨ b = a) H' a d) (k : Kp U (fun b => U b ∨ b = a) H H') (P0 : Pt K H0 σ H ρ U) :
    Pt K H0 (σ.set i (some (.ref a))) H' (ρ.set i (some (true, d))) fun b => U b ∨ b = a := by
  have hl : σ.length = ρ.length := P.len
  have mu : ∃ o, H' a = some o ∧ MuO o := by
    cases d with
    | list ds =>
      obtain ⟨vs, e, _⟩ := r
      exact ⟨_, e, .inl ⟨_, rfl⟩⟩
    | dict ds =>
      obtain ⟨vs, e, _⟩ := r
      exact ⟨_, e, .inr ⟨_, rfl⟩⟩
    | _ => exact r.elim
  have sl' := fun j => (P0.sl j).mono k (fun b z => .inl z) fun d b h1 h2 o e => s b o e
  refine ⟨by rw [List.length_set, List.length_set]; exact hl, fun j => ?_, fun j l d' e' b h1 h2 h3 h4 => ?_, fun b z => ?_, fun b z => .inl (P.bu b z), P.bd, P.s0⟩
  · by_cases hij : i = j
    · subst hij
      by_cases hi : i < ρ.length
      · rw [List.getElem?_set_self hi, List.getElem?_set_self (by rw [hl]; exact hi)]
        exact ⟨a, rfl, .inr rfl, h0, r⟩
      · rw [List.getElem?_eq_none (l := ρ.set i _) (by rw [List.length_set]; omega)]
        trivial
    · rw [List.getElem?_set_ne hij, List.getElem?_set_ne hij]
      exact sl' j
  · have out : ∀ {x : Nat} {d : D}, i ≠ x → (ρ.set i (some (true, d')))[x]? = ρ[x]? := fun h => List.getElem?_set_ne h
    have notOld : ∀ (x : Nat) (d : D), ρ[x]? = some (some (true, d)) → σ[x]? = some (some (.ref a)) → False := fun x d q1 q2 => by
      have := P.sl x
      rw [q1, q2] at this
      obtain ⟨a', e1, hu', _⟩ := this
      cases e1
      exact hu hu'
    have isA : ∀ (x : Nat) (b : Addr) (d : D), i = x → (ρ.set i (some (true, d)))[x]? = (ρ.set i (some (true, d)))[x]? → (σ.set i (some (.ref a)))[x]? = some (some (.ref b)) → a = b := fun x b d q1 _ q3 => by
      subst q1
      by_cases hi : i < σ.length
      · rw [List.getElem?_set_self hi] at q3
        cases q3
        rfl
      · rw [List.getElem?_eq_none (by rw [List.length_set]; omega)] at q3
        cases q3
    by_cases hj : i = j <;> by_cases hk : i = l
    · rw [← hj, ← hk]
    · have e1 := isA j b d hj rfl h3
      rw [List.getElem?_set_ne hk] at h2 h4
      subst e1
      exact (notOld l e' h2 h4).elim
    · have e1 := isA l b d hk rfl h4
      rw [List.getElem?_set_ne hj] at h1 h3
      subst e1
      exact (notOld j d' h1 h3).elim
    · rw [List.getElem?_set_ne hj] at h1 h3
      rw [List.getElem?_set_ne hk] at h2 h4
      exact P.ne j l d' e' b h1 h2 h3 h4
  · rcases z with z | rfl
    · exact P.ud b z
    · exact mu
theorem asgV {st : Stmt} {i : Nat} {f : Rho → Out D} (h : PS X st (tAsg (tD X H0 W .v f) (gName i))) : DS X H0 W st fun ρ => (f ρ).st ρ (setV i ρ) :=
  PS.imp h fun Dn σ H ⟨ρ, U, P, q⟩ => ⟨ρ, U, P, PostS.expr P q fun d v H' _ s P' r q' => q' _ H' U Kp.rfl (P'.set i r)⟩
theorem asgF {st : Stmt} {i : Nat} {f : Rho → Out D} (h : PS X st (tAsg (tD X H0 W .f f) (gName i))) : DS X H0 W st fun ρ => (f ρ).st ρ (setF i ρ) :=
  PS.imp h fun Dn σ H ⟨ρ, U, P, q⟩ => by
    refine ⟨ρ, U, P, ?_⟩
    replace q : PostS X H0 W Dn H U ((f ρ).st ρ (setF i ρ)) := q
    cases ef : f ρ with
    | exc c fs =>
      rw [ef] at q
      exact fun cls dd H' s x => q cls dd σ H' U (Kp.same s) (P.same s) x
    | stuck =>
      rw [ef] at q
      exact q.elim
    | ok d =>
      rw [ef] at q
      intro v H' s r
      obtain ⟨a, rfl, hn, ow⟩ := r
      have k : Kp U (fun b => U b ∨ b = a) H H' := ⟨fun b o e _ => s b o e, fun b z => z.imp id fun e => by rw [e]; exact hn⟩
      refine q _ H' _ k (Pt.new (P.same s) s i (P.fresh hn) ?_ ow k P)
      cases e0 : H0.h a with
      | none => rfl
      | some o =>
        have := P.s0 _ _ e0
        rw [hn] at this
        cases this
theorem ds_set {i : Nat} {x : Str} {e : Expr} {f : Rho → Out D} {p pos : Pos} (hN : X.N.Nodup) (hi : X.N[i]? = some x) (hx : Loc X.env.scope x) (hf : X.fn x = true ∨ X.env.scope.names.lookup x = some .local) (h : DE X H0 W .v e f) (hs : swapsWith e (some (.Name x p)) pos.line X.env = pure false) :
    DS X H0 W (.Assign [.Name x p] e pos) fun ρ => (f ρ).st ρ (setV i ρ) := asgV (ps_set hN hi hx h hs hf)
theorem ds_setF {i : Nat} {x : Str} {e : Expr} {f : Rho → Out D} {p pos : Pos} (hN : X.N.Nodup) (hi : X.N[i]? = some x) (hx : Loc X.env.scope x) (hf : X.fn x = true ∨ X.env.scope.names.lookup x = some .local) (h : DE X H0 W .f e f) (hs : swapsWith e (some (.Name x p)) pos.line X.env = pure false) :
    DS X H0 W (.Assign [.Name x p] e pos) fun ρ => (f ρ).st ρ (setF i ρ) := asgF (ps_set hN hi hx h hs hf)
def bindS (t : Tg) (ρ : Rho) (d : D) : SOut := match bindT t d ρ with
  | some ρ' => .nx ρ'
  | none => .stuck
theorem ds_asgT {tg e : Expr} {t : Tg} {f : Rho → Out D} {pos : Pos} (h : DE X H0 W .v e f) (hg : DG X H0 tg t) (hs : swapsWithSole [tg] e pos.line X.env = pure false) (hw : swappedStores [tg] e X.env = pure none) (h1 : (assignEach [tg] X.env).map (·.2) = [assign tg X.env]) :
    DS X H0 W (.Assign [tg] e pos) fun ρ => (f ρ).st ρ (bindS t ρ) :=
  PS.imp (ps_asg h hg hs hw h1) fun Dn σ H ⟨ρ, U, P, q⟩ => ⟨ρ, U, P, PostS.expr P q fun d v H' _ s P' r q' => by
    unfold bindS at q'
    split at q'
    · rename_i ρ' hb
      exact ⟨ρ, U, d, ρ', P', r, hb, fun σ' P'' _ => q' σ' H' U Kp.rfl P''⟩
    · exact q'.elim⟩
def bindsS (ts : List Tg) (ρ : Rho) (ds : List D) : SOut := match bindTs ts ds ρ with
  | some ρ' => .nx ρ'
  | none => .stuck
theorem PostS.args {Dn : Ends} {σ : L2.St} {H : Hp} {ρ : Rho} {U : Addr → Prop} {b : Bool} (P : Pt X.K H0 σ H ρ U) {r : Out (List D)} {k : List D → SOut} {Q : List V → Hp → Prop} (q : PostS X H0 W Dn H U (r.st ρ k))
    (h : ∀ ds vs H', r = .ok ds → Same H H' → Pt X.K H0 σ H' ρ U → RepL X.K U H' vs ds b → PostS X H0 W Dn H' U (k ds) → Q vs H') : PostL X W b σ H U Q r := by
  cases r with
  | ok ds => exact fun vs H' s rv => h ds vs H' rfl s (P.same s) rv (PostS.later (Kp.same s) q)
  | exc c fs => exact fun cls dd H' s x => q cls dd σ H' U (Kp.same s) (P.same s) x
  | stuck => exact q.elim
theorem ds_par2 {i j : Nat} {x y : Str} {a b : Expr} {px py pt pos : Pos} {kt k2 : Nat} {pt2 : Pos} {f : Rho → Out (List D)} (hc : X.calm = true) (hN : X.N.Nodup) (hi : X.N[i]? = some x) (hj : X.N[j]? = some y) (hij : i ≠ j)
    (hx : X.env.scope.names.lookup x = some .local) (hy : X.env.scope.names.lookup y = some .local) (ha : DA X H0 W false [a, b] f)
    (hw : swappedStores [.Tuple [.Name x px, .Name y py] kt pt] (.Tuple [a, b] k2 pt2) X.env = pure (some [x, y]))
    (hs : swapsWithSole [.Tuple [.Name x px, .Name y py] kt pt] (.Tuple [a, b] k2 pt2) pos.line X.env = pure false) :
    DS X H0 W (.Assign [.Tuple [.Name x px, .Name y py] kt pt] (.Tuple [a, b] k2 pt2) pos) fun ρ => (f ρ).st ρ (bindsS [.nm i, .nm j] ρ) :=
  PS.imp (ps_par hc hN hi hj hij hx hy ha hw hs) fun Dn σ H ⟨ρ, U, P, q⟩ => ⟨ρ, U, P, PostS.args P q fun ds vs H' _ s P' r q' => by
    have r : Reps X.K U H' vs ds := r
    unfold bindsS at q'
    split at q'
    · rename_i ρ' hb
      match ds, hb, r with
      | [d, e], hb, r =>
        obtain ⟨v, w, rfl, r1, r2⟩ := reps2 r
        simp only [bindTs, bindT, Option.bind_some, Option.some.injEq] at hb
        subst hb
        exact ⟨v, w, rfl, q' _ H' U Kp.rfl ((P'.set i r1).set j r2)⟩
      | [], hb, _ => simp [bindTs] at hb
      | [_], hb, _ => simp [bindTs, bindT] at hb
      | _ :: _ :: _ :: _, hb, _ => simp [bindTs, bindT] at hb
    · exact q'.elim⟩
theorem reps3 {K : PySem.W.Frag} {U : Addr → Prop} {H : Hp} {vs : List V} {d e g : D} (r : Reps K U H vs [d, e, g]) : ∃ v u w, vs = [v, u, w] ∧ Rep K U H v d ∧ Rep K U H u e ∧ Rep K U H w g := by
  cases r with
  | cons r t =>
    obtain ⟨u, w, rfl, r2, r3⟩ := reps2 t
    exact ⟨_, _, _, rfl, r, r2, r3⟩
theorem ds_par3 {i j l : Nat} {x y z : Str} {a b c : Expr} {px py pz pt pos : Pos} {kt k2 : Nat} {pt2 : Pos} {f : Rho → Out (List D)} (hc : X.calm = true) (hN : X.N.Nodup) (hi : X.N[i]? = some x) (hj : X.N[j]? = some y) (hl : X.N[l]? = some z) (hij : i ≠ j) (hil : i ≠ l) (hjl : j ≠ l)
    (hx : X.env.scope.names.lookup x = some .local) (hy : X.env.scope.names.lookup y = some .local) (hz : X.env.scope.names.lookup z = some .local) (ha : DA X H0 W false [a, b, c] f)
    (hw : swappedStores [.Tuple [.Name x px, .Name y py, .Name z pz] kt pt] (.Tuple [a, b, c] k2 pt2) X.env = pure (some [x, y, z]))
    (hs : swapsWithSole [.Tuple [.Name x px, .Name y py, .Name z pz] kt pt] (.Tuple [a, b, c] k2 pt2) pos.line X.env = pure false) :
    DS X H0 W (.Assign [.Tuple [.Name x px, .Name y py, .Name z pz] kt pt] (.Tuple [a, b, c] k2 pt2) pos) fun ρ => (f ρ).st ρ (bindsS [.nm i, .nm j, .nm l] ρ) :=
  PS.imp (ps_par3 hc hN hi hj hl hij hil hjl hx hy hz ha hw hs) fun Dn σ H ⟨ρ, U, P, q⟩ => ⟨ρ, U, P, PostS.args P q fun ds vs H' _ s P' r q' => by
    have r : Reps X.K U H' vs ds := r
    unfold bindsS at q'
    split at q'
    · rename_i ρ' hb
      match ds, hb, r with
      | [d, e, g], hb, r =>
        obtain ⟨v, w, u, rfl, r1, r2, r3⟩ := reps3 r
        simp only [bindTs, bindT, Option.bind_some, Option.some.injEq] at hb
        subst hb
        exact ⟨v, w, u, rfl, q' _ H' U Kp.rfl (((P'.set i r1).set j r2).set l r3)⟩
      | [], hb, _ => simp [bindTs] at hb
      | [_], hb, _ => simp [bindTs, bindT] at hb
      | [_, _], hb, _ => simp [bindTs, bindT] at hb
      | _ :: _ :: _ :: _ :: _, hb, _ => simp [bindTs, bindT] at hb
    · exact q'.elim⟩
/-! ### owned no more -/
def demO : Option (Option (Bool × D)) → Option (Option (Bool × D))
  | some (some (_, d)) => some (some (false, d))
  | x => x
def dem1 (i : Nat) (ρ : Rho) : Rho := match ρ[i]? with
  | some (some (true, d)) => ρ.set i (some (false, d))
  | _ => ρ
def dem : List Nat → Rho → Rho
  | [], ρ => ρ
  | i :: is, ρ => dem is (dem1 i ρ)
theorem Pt.dem1 {K : PySem.W.Frag} {σ : L2.St} {H : Hp} {ρ : Rho} {U : Addr → Prop} (P : Pt K H0 σ H ρ U) (i : Nat) : ∃ U', Kp U U' H H ∧ Pt K H0 σ H (dem1 i ρ) U' := by
  unfold Mp.dem1
  split
  · rename_i d hd
    have hs := P.sl i
    rw [hd] at hs
    obtain ⟨a, e1, hu, h0, ow⟩ := hs
    have k : Kp U (fun b => U b ∧ b ≠ a) H H := Kp.less fun _ z => z.1
    refine ⟨fun b => U b ∧ b ≠ a, k, by rw [List.length_set]; exact P.len, fun j => ?_, fun j l d' e' b h1 h2 h3 h4 => ?_, fun b z => P.ud b z.1, fun b z => ⟨P.bu b z, ?_⟩, P.bd, P.s0⟩
    · by_cases hij : i = j
      · subst hij
        have hi : i < ρ.length := (List.getElem?_eq_some_iff.mp hd).1
        rw [List.getElem?_set_self hi, e1]
        exact ⟨_, rfl, ow.rep k fun z => z.2 rfl⟩
      · rw [List.getElem?_set_ne hij]
        have hj := P.sl j
        cases ej : ρ[j]? with
        | none => trivial
        | some o =>
          rw [ej] at hj
          cases o with
          | none => trivial
          | some q =>
            obtain ⟨b, d'⟩ := q
            cases b with
            | false =>
              obtain ⟨x, e2, r⟩ := hj
              exact ⟨x, e2, r.mono k⟩
            | true =>
              obtain ⟨a2, e2, hu2, h02, ow2⟩ := hj
              refine ⟨a2, e2, ⟨hu2, ?_⟩, h02, ow2.mono k fun _ z => z⟩
              rintro rfl
              exact hij (P.ne i j d d' a2 hd ej e1 e2)
    · have hj : i ≠ j := by
        rintro rfl
        have hi : i < ρ.length := (List.getElem?_eq_some_iff.mp hd).1
        rw [List.getElem?_set_self hi] at h1
        cases h1
      have hl : i ≠ l := by
        rintro rfl
        have hi : i < ρ.length := (List.getElem?_eq_some_iff.mp hd).1
        rw [List.getElem?_set_self hi] at h2
        cases h2
      rw [List.getElem?_set_ne hj] at h1
      rw [List.getElem?_set_ne hl] at h2
      exact P.ne j l d' e' b h1 h2 h3 h4
    · rintro rfl
      obtain ⟨o, e⟩ := P.bd b z
      rw [h0] at e
      cases e
  · exact ⟨U, Kp.rfl, P⟩
theorem Pt.dem {K : PySem.W.Frag} {σ : L2.St} {H : Hp} : ∀ (is : List Nat) {ρ : Rho} {U : Addr → Prop}, Pt K H0 σ H ρ U → ∃ U', Kp U U' H H ∧ Pt K H0 σ H (Mp.dem is ρ) U'
  | [], ρ, U, P => ⟨U, Kp.rfl, P⟩
  | i :: is, ρ, U, P => by
    obtain ⟨U1, k1, P1⟩ := P.dem1 i
    obtain ⟨U2, k2, P2⟩ := Pt.dem is P1
    exact ⟨U2, k1.tr k2, P2⟩
theorem DS.dem {st : Stmt} {f : Rho → SOut} (h : DS X H0 W st f) (is : List Nat) : DS X H0 W st fun ρ => f (Mp.dem is ρ) :=
  PS.imp h fun Dn σ H ⟨ρ, U, P, q⟩ => by
    obtain ⟨U', k, P'⟩ := P.dem is
    exact ⟨_, U', P', PostS.later k q⟩
/-! ### what is owned is written to -/
theorem Pt.write {K : PySem.W.Frag} {σ : L2.St} {H : Hp} {ρ : Rho} {U : Addr → Prop} (P : Pt K H0 σ H ρ U) {i : Nat} {d d' : D} {a : Addr} {o : HO} (h1 : ρ[i]? = some (some (true, d))) (h2 : σ[i]? = some (some (.ref a))) (mu : MuO o) (ow : Kp U U H (upd H a o) → Own K U (upd H a o) a d') :
    Pt K H0 σ (upd H a o) (ρ.set i (some (true, d'))) U ∧ Kp U U H (upd H a o) := by
  have hs := P.sl i
  rw [h1, h2] at hs
  obtain ⟨a', e1, hu, h0, _⟩ := hs
  cases e1
  have hi : i < ρ.length := (List.getElem?_eq_some_iff.mp h1).1
  have k : Kp U U H (upd H a o) := ⟨fun b q e n => by
    rw [upd_ne fun z => n (by rw [z]; exact hu)]
    exact e, fun b z => .inl z⟩
  refine ⟨⟨by rw [List.length_set]; exact P.len, fun j => ?_, fun j l d1 e1 b q1 q2 q3 q4 => ?_, fun b z => ?_, P.bu, P.bd, fun b q e => ?_⟩, k⟩
  · by_cases hij : i = j
    · subst hij
      rw [List.getElem?_set_self hi, h2]
      exact ⟨a, rfl, hu, h0, ow k⟩
    · rw [List.getElem?_set_ne hij]
      refine (P.sl j).mono k (fun _ z => z) fun d2 b q1 q2 o' e => ?_
      rw [upd_ne fun z => hij (P.ne i j d d2 a h1 q1 h2 (by rw [q2, z]))]
      exact e
  · have f1 : ∃ dd, ρ[j]? = some (some (true, dd)) := by
      by_cases hij : i = j
      · subst hij
        exact ⟨d, h1⟩
      · rw [List.getElem?_set_ne hij] at q1
        exact ⟨_, q1⟩
    have f2 : ∃ dd, ρ[l]? = some (some (true, dd)) := by
      by_cases hij : i = l
      · subst hij
        exact ⟨d, h1⟩
      · rw [List.getElem?_set_ne hij] at q2
        exact ⟨_, q2⟩
    obtain ⟨da, fa⟩ := f1
    obtain ⟨db, fb⟩ := f2
    exact P.ne j l da db b fa fb q3 q4
  · by_cases hz : b = a
    · subst hz
      exact ⟨o, upd_same, mu⟩
    · obtain ⟨o', e, m⟩ := P.ud b z
      exact ⟨o', by rw [upd_ne hz]; exact e, m⟩
  · have hz : b ≠ a := by
      rintro rfl
      rw [h0] at e
      cases e
    rw [upd_ne hz]
    exact P.s0 _ _ e
def appD (i : Nat) (ρ : Rho) (d : D) : SOut := match ρ[i]? with
  | some (some (true, .list ds)) => if ds.length < sizeLine then .nx (ρ.set i (some (true, .list (ds ++ [d])))) else .stuck
  | _ => .stuck
def ownL (i : Nat) (ρ : Rho) : Bool := match ρ[i]? with
  | some (some (true, .list _)) => true
  | _ => false
theorem ds_append {i : Nat} {x : Str} {e : Expr} {f : Rho → Out D} {p apos cpos pos : Pos} (hN : X.N[i]? = some x) (hv : Vis X.env.scope x) (hd : (x == ("__debug__" : Str)) = false) (hcd : (x == ("__classdict__" : Str)) = false) (h : DE X H0 W .v e f)
    (hs1 : starEach [e] X.env = [(false, eval e X.env)]) (hline : (apos.endLine == cpos.line) = true) :
    DS X H0 W (.Expr (.Call (.Attribute (.Name x p) "append" apos) [e] [] cpos) pos) fun ρ => if ownL i ρ = true then (f ρ).st ρ (appD i ρ) else .stuck :=
  PS.imp (ps_expr (pe_bm (T := "list") (id := "list.append") F.plainAttrs_list F.slot_list_append F.type_list_append mt_append (pe_var hN hv hd hcd) (pa_cons h pa_nil hs1) rfl (by rw [hs1]; rfl) hline hs1 rfl) rfl) fun Dn σ H ⟨ρ, U, P, q⟩ => by
    replace q : PostS X H0 W Dn H U (if ownL i ρ = true then (f ρ).st ρ (appD i ρ) else .stuck) := q
    split at q
    case isFalse => exact q.elim
    rename_i hown
    unfold ownL at hown
    split at hown
    case h_2 => cases hown
    rename_i ds hi
    have hs := P.sl i
    rw [hi] at hs
    obtain ⟨a, e1, hu, h0, vs, e2, rs⟩ := hs
    refine ⟨.ref a, e1, .inl ⟨rfl, vs, .inl (.inl e2)⟩, ρ, U, P, PostS.expr P q fun d v H' _ s P' r q' => ?_⟩
    unfold appD at q'
    rw [hi] at q'
    replace q' : PostS X H0 W Dn H' U (if ds.length < sizeLine then .nx (ρ.set i (some (true, .list (ds ++ [d])))) else .stuck) := q'
    split at q'
    · rename_i hz
      have l := rs.length
      refine ⟨a, vs, v, rfl, rfl, s _ _ e2, by omega, ?_⟩
      obtain ⟨P2, k2⟩ := P'.write (d' := .list (ds ++ [d])) (o := .lst (vs ++ [v])) hi e1 (.inl ⟨_, rfl⟩) fun k => ⟨_, upd_same, ((rs.mono (Kp.same s)).mono k).append (.cons (r.mono k) .nil)⟩
      exact q' _ _ U k2 P2
    · exact q'.elim
end
end Mp
namespace Mp
open PySem PySem.Spec PyProof.Rows L2
/-! ## loops -/
def forL (t : Tg) (fb : Rho → SOut) : List D → Rho → SOut
  | [], ρ => .nx ρ
  | d :: ds, ρ => match bindT t d ρ with
    | none => .stuck
    | some ρ1 => match fb ρ1 with
      | .nx ρ2 => forL t fb ds ρ2
      | .ct ρ2 => forL t fb ds ρ2
      | .brk ρ2 => .nx ρ2
      | .ret d => .ret d
      | .exc c fs ρ2 => .exc c fs ρ2
      | .stuck => .stuck
section
variable {X : Cx} {H0 : Ent} {W : WX}
theorem ds_for {tg iter : Expr} {t : Tg} {body : List Stmt} {pos : Pos} {fi : Rho → Out (List D)} {fb : Rho → SOut} (hp : PassesOwn (model X.prog X.w) X.A X.env X.xe) (hc : X.calm = true) (hi : DI X H0 W false tg iter fi) (hg : DG X H0 tg t) (hb : DSs X H0 W body fb)
    (hs : ∀ x, foldedSetIterable iter X.env x = pure x) : DS X H0 W (.For tg iter body [] pos) fun ρ => (fi ρ).st ρ fun ds => forL t fb ds ρ :=
  PS.imp (ps_for hp hc hi hg hb hs) fun Dn σ H ⟨ρ, U, P, q⟩ => by
    refine ⟨ρ, U, P, ?_⟩
    replace q : PostS X H0 W Dn H U ((fi ρ).st ρ fun ds => forL t fb ds ρ) := q
    cases ef : fi ρ with
    | exc c fs =>
      rw [ef] at q
      exact fun cls dd H' s x => q cls dd σ H' U (Kp.same s) (P.same s) x
    | stuck =>
      rw [ef] at q
      exact q.elim
    | ok ds =>
      rw [ef] at q
      replace q : PostS X H0 W Dn H U (forL t fb ds ρ) := q
      intro J H1 s1 jd
      refine ⟨fun i m σ' H' => m = ds.length - i ∧ i ≤ ds.length ∧ ∃ ρ' U', Kp U U' H1 H' ∧ Pt X.K H0 σ' H' ρ' U' ∧ PostS X H0 W Dn H' U' (forL t fb (ds.drop i) ρ'),
        ⟨ds.length, by simp, Nat.zero_le _, ρ, U, Kp.rfl, P.same s1, by simpa using PostS.later (Kp.same s1) q⟩, ?_⟩
      rintro i m σ2 H2 ⟨rfl, hi2, ρ2, U2, k2, P2, q2⟩
      obtain ⟨j1, j2⟩ := jd U2 H2 ⟨fun p hp => P2.fresh hp, k2⟩
      by_cases hlt : i < ds.length
      · obtain ⟨j3, j4⟩ := j2 i _ (List.getElem?_eq_getElem hlt)
        have edrop : ds.drop i = ds[i] :: ds.drop (i + 1) := List.drop_eq_getElem_cons hlt
        rw [edrop] at q2
        unfold forL at q2
        refine .inr ⟨j3, fun σ' H' => i + 1 ≤ ds.length ∧ ∃ ρ' U', Kp U U' H1 H' ∧ Pt X.K H0 σ' H' ρ' U' ∧ PostS X H0 W Dn H' U' (forL t fb (ds.drop (i + 1)) ρ'), fun σ' H' h => ⟨ds.length - (i + 1), by omega, rfl, h.1, h.2⟩, fun x H3 hy => ?_⟩
        obtain ⟨s3, rx⟩ := j4 x H3 hy
        have P3 := P2.same s3
        split at q2
        · exact q2.elim
        rename_i ρ3 eb
        refine ⟨ρ2, U2, ds[i], ρ3, P3, rx, eb, fun σ4 P4 _ => ⟨ρ3, U2, P4, ?_⟩⟩
        have q3 := PostS.later (Kp.same s3) q2
        cases e3 : fb ρ3 with
        | nx ρ5 =>
          rw [e3] at q3
          exact fun σ' H' U' k P' => ⟨hlt, ρ5, U', k2.tr ((Kp.same s3).tr k), P', PostS.later k q3⟩
        | ct ρ5 =>
          rw [e3] at q3
          exact fun σ' H' U' k P' => ⟨hlt, ρ5, U', k2.tr ((Kp.same s3).tr k), P', PostS.later k q3⟩
        | brk ρ5 =>
          rw [e3] at q3
          exact q3
        | ret d =>
          rw [e3] at q3
          exact q3
        | exc c fs ρ5 =>
          rw [e3] at q3
          exact q3
        | stuck =>
          rw [e3] at q3
          exact q3.elim
      · have e : i = ds.length := by omega
        subst e
        rw [List.drop_length] at q2
        exact .inl ⟨j1, q2 σ2 H2 U2 Kp.rfl P2⟩
/-! ### while -/
def whileF (fc : Rho → Out Bool) (fb : Rho → SOut) : Nat → Rho → SOut
  | 0, _ => .stuck
  | n + 1, ρ => (fc ρ).st ρ fun k => if k = true then (match fb ρ with
    | .nx ρ2 => whileF fc fb n ρ2
    | .ct ρ2 => whileF fc fb n ρ2
    | .brk ρ2 => .nx ρ2
    | .ret d => .ret d
    | .exc c fs ρ2 => .exc c fs ρ2
    | .stuck => .stuck) else .nx ρ
theorem ds_while {c : Expr} {body : List Stmt} {pos : Pos} {fc : Rho → Out Bool} {fb : Rho → SOut} (hp : PassesOwn (model X.prog X.w) X.A X.env X.xe) (hc : DT X H0 W c fc) (hb : DSs X H0 W body fb) (n : Nat) : DS X H0 W (.While c body [] pos) (whileF fc fb n) :=
  PS.imp (ps_while hp hc hb) fun Dn σ H ⟨ρ, U, P, q⟩ => by
    refine ⟨fun m σ' H' => ∃ ρ' U', Pt X.K H0 σ' H' ρ' U' ∧ PostS X H0 W Dn H' U' (whileF fc fb m ρ'), ⟨n, ρ, U, P, q⟩, ?_⟩
    rintro m σ2 H2 ⟨ρ2, U2, P2, q2⟩
    cases m with
    | zero => exact q2.elim
    | succ m =>
      unfold whileF at q2
      refine ⟨ρ2, U2, P2, PostS.test P2 q2 fun k H3 _ s3 P3 q3 => ?_⟩
      cases k with
      | false => exact q3 σ2 H3 U2 Kp.rfl P3
      | true =>
        simp only [if_true] at q3 ⊢
        refine ⟨fun σ' H' => ∃ ρ' U', Pt X.K H0 σ' H' ρ' U' ∧ PostS X H0 W Dn H' U' (whileF fc fb m ρ'), fun σ' H' h => ⟨m, Nat.lt_succ_self m, h⟩, ρ2, U2, P3, ?_⟩
        cases e3 : fb ρ2 with
        | nx ρ5 =>
          rw [e3] at q3
          exact fun σ' H' U' k P' => ⟨ρ5, U', P', PostS.later k q3⟩
        | ct ρ5 =>
          rw [e3] at q3
          exact fun σ' H' U' k P' => ⟨ρ5, U', P', PostS.later k q3⟩
        | brk ρ5 =>
          rw [e3] at q3
          exact q3
        | ret d =>
          rw [e3] at q3
          exact q3
        | exc c fs ρ5 =>
          rw [e3] at q3
          exact q3
        | stuck =>
          rw [e3] at q3
          exact q3.elim
/-- by any number of turns -/
theorem DS.any {st : Stmt} {f : Nat → Rho → SOut} {g : Rho → SOut} (h : ∀ n, DS X H0 W st (f n)) (hg : ∀ ρ, g ρ = .stuck ∨ ∃ n, g ρ = f n ρ) : DS X H0 W st g :=
  ⟨fun pins s σ H Dn I ⟨ρ, U, P, q⟩ => by
    rcases hg ρ with e | ⟨n, e⟩
    · rw [e] at q
      exact q.elim
    · exact (h n).run pins s σ H Dn I ⟨ρ, U, P, by rw [← e]; exact q⟩⟩
/-! ## comprehensions, as values and stored -/
theorem de_lc {elt tg iter : Expr} {ifs : List Expr} {scope : Scope} {own : List (Str × Nat)} {pos : Pos} {t : Tg} {fi : Rho → Out (List D)} {ft : Rho → Out Bool} {fe : Rho → Out D} (hc : X.calm = true) (hN : X.N.Nodup) (hi : DI X H0 W true tg iter fi) (ok : BlkOk X.N X.env.scope scope own) (hvs : ∀ j ∈ t.ixs, j ∈ own.map (·.2))
    (hg : ∀ s H C cl fp, DG (X.blk s H scope (compEnvC scope cl C X.env) fp) H0 tg t) (ht : ∀ s H C cl fp, PTsD (X.blk s H scope (compEnvC scope cl C X.env) fp) H0 W0 ifs ft)
    (he : ∀ s H C cl fp, DE (X.blk s H scope (compEnvC scope cl C X.env) fp) H0 W0 .v elt fe) (hs : ∀ x, foldedSetIterable iter X.env x = pure x) :
    DE X H0 W .f (.ListComp elt [⟨tg, iter, ifs, 0⟩] scope pos) fun ρ => (fi ρ).bind fun ds => (noxO (lcL (turnD t ft fe (wipeR ρ (own.map (·.2)))) ds)).bind lstD :=
  PE.imp (pe_lc (g := tDG X H0 t) (tt := tDT X H0 W0 ft) (te := tD X H0 W0 .v fe) hc hN hi ok hg ht he hs) fun σ H Q h => lc_rule hvs h
theorem ds_lc {i : Nat} {y : Str} {py : Pos} {elt tg iter : Expr} {ifs : List Expr} {scope : Scope} {own : List (Str × Nat)} {pos spos : Pos} {t : Tg} {fi : Rho → Out (List D)} {ft : Rho → Out Bool} {fe : Rho → Out D} (hc : X.calm = true) (hN : X.N.Nodup) (hy : X.N[i]? = some y) (hyl : X.env.scope.names.lookup y = some .local)
    (hsw : swapsWith (.ListComp elt [⟨tg, iter, ifs, 0⟩] scope pos) (some (.Name y py)) spos.line X.env = pure true) (hi : DI X H0 W true tg iter fi) (ok : BlkOk X.N X.env.scope scope own) (hvs : ∀ j ∈ t.ixs, j ∈ own.map (·.2))
    (hg : ∀ s H C cl fp, DG (X.blk s H scope (compEnvC scope cl C X.env) fp) H0 tg t) (ht : ∀ s H C cl fp, PTsD (X.blk s H scope (compEnvC scope cl C X.env) fp) H0 W0 ifs ft)
    (he : ∀ s H C cl fp, DE (X.blk s H scope (compEnvC scope cl C X.env) fp) H0 W0 .v elt fe) (hs : ∀ x, foldedSetIterable iter X.env x = pure x) :
    DS X H0 W (.Assign [.Name y py] (.ListComp elt [⟨tg, iter, ifs, 0⟩] scope pos) spos) fun ρ => ((fi ρ).bind fun ds => (noxO (lcL (turnD t ft fe (wipeR ρ (own.map (·.2)))) ds)).bind lstD).st ρ (setF i ρ) :=
  asgF (PS.imp (ps_setLc (g := tDG X H0 t) (tt := tDT X H0 W0 ft) (te := tD X H0 W0 .v fe) hc hN hy hyl hsw hi ok hg ht he hs) fun Dn σ H h => lc_rule hvs h)
end
/-! ### dict comprehensions -/
def dcL (g : D → Out (Option (D × D))) : List D → List (D × D) → Out (List (D × D))
  | [], es => .ok es
  | d :: ds, es => (g d).bind fun o => match o with
    | none => dcL g ds es
    | some (k, v) => match keyOf k with
      | some k => if es.length < sizeLine then dcL g ds (putE es k v) else .stuck
      | none => .stuck
def turnK (t : Tg) (ft : Rho → Out Bool) (fk fv : Rho → Out D) (ρ : Rho) (d : D) : Out (Option (D × D)) := match bindT t d ρ with
  | none => .stuck
  | some ρ' => (ft ρ').bind fun b => if b = true then (fk ρ').bind fun y => (fv ρ').bind fun z => .ok (some (y, z)) else .ok none
structure DcW (K : PySem.W.Frag) (H0 : Ent) (σ : L2.St) (H1 : Hp) (ρ : Rho) (U : Addr → Prop) (L : Addr) (es : List (D × D)) (H : Hp) : Prop where
  pt : Pt K H0 σ H ρ fun a => U a ∨ a = L
  sm : Same H1 H
  acc : ∃ kvs, H L = some (.dK kvs) ∧ RepK K (fun a => U a ∨ a = L) H kvs es
section
variable {X : Cx} {H0 : Ent} {W : WX}
theorem turnK_split {t : Tg} {ft : Rho → Out Bool} {fk fv : Rho → Out D} {ρ : Rho} {d : D} {o : Option (D × D)} (h : turnK t ft fk fv ρ d = .ok o) : ∃ ρ' b, bindT t d ρ = some ρ' ∧ ft ρ' = .ok b ∧ (if b = true then ∃ y z, fk ρ' = .ok y ∧ fv ρ' = .ok z ∧ o = some (y, z) else o = none) := by
  unfold turnK at h
  split at h
  · cases h
  · rename_i ρ' e
    refine ⟨ρ', ?_⟩
    cases e2 : ft ρ' with
    | exc c fs => rw [e2] at h; cases h
    | stuck => rw [e2] at h; cases h
    | ok b =>
      rw [e2] at h
      refine ⟨b, e, rfl, ?_⟩
      cases b with
      | false =>
        cases h
        rfl
      | true =>
        replace h : ((fk ρ').bind fun y => (fv ρ').bind fun z => Out.ok (some (y, z))) = .ok o := h
        cases e3 : fk ρ' with
        | exc c fs => rw [e3] at h; cases h
        | stuck => rw [e3] at h; cases h
        | ok y =>
          rw [e3] at h
          replace h : ((fv ρ').bind fun z => Out.ok (some (y, z))) = .ok o := h
          cases e4 : fv ρ' with
          | exc c fs => rw [e4] at h; cases h
          | stuck => rw [e4] at h; cases h
          | ok z =>
            rw [e4] at h
            cases h
            exact ⟨y, z, rfl, rfl, rfl⟩
theorem wipe_idem (vs : List Nat) (σ : L2.St) : L2.wipe (L2.wipe σ vs) vs = L2.wipe σ vs := wipe_get (by rw [L2.wipe_length]) fun j hj => by
  have : ∀ (us : List Nat) (σ : L2.St), j ∉ us → (L2.wipe σ us)[j]? = σ[j]? := by
    intro us
    induction us with
    | nil => intro σ _; rfl
    | cons v us ih =>
      intro σ hj
      simp only [List.mem_cons, not_or] at hj
      unfold L2.wipe
      rw [List.getElem?_set_ne (fun e => hj.1 e.symm), ih σ hj.2]
  exact this vs σ hj
theorem dc_rule {t : Tg} {fi : Rho → Out (List D)} {ft : Rho → Out Bool} {fk fv : Rho → Out D} {vs : List Nat} {σ : L2.St} {H : Hp} {Q : VK} (hvs : ∀ j ∈ t.ixs, j ∈ vs)
    (h : tD X H0 W .f (fun ρ => (fi ρ).bind fun ds => (noxO (dcL (turnK t ft fk fv (wipeR ρ vs)) ds [])).bind fun es => .ok (.dict es)) σ H Q) :
    L2.tDc (tDI X H0 W true fi) (tDG X H0 t) (tDT X H0 W0 ft) (tD X H0 W0 .v fk) (tD X H0 W0 .v fv) vs σ H Q := by
  obtain ⟨ρ, U, P, q⟩ := h
  replace q : PostM X W .f σ H U Q ((fi ρ).bind fun ds => (noxO (dcL (turnK t ft fk fv (wipeR ρ vs)) ds [])).bind fun es => .ok (.dict es)) := q
  refine ⟨ρ, U, P, ?_⟩
  revert q
  cases fi ρ with
  | exc c fs => exact fun q => q
  | stuck => exact fun q => q
  | ok ds =>
    intro q J H1 s1 jd L hL
    replace q : PostM X W .f σ H U Q ((noxO (dcL (turnK t ft fk fv (wipeR ρ vs)) ds [])).bind fun es => .ok (.dict es)) := q
    cases etot : dcL (turnK t ft fk fv (wipeR ρ vs)) ds [] with
    | exc c fs =>
      rw [etot] at q
      exact q.elim
    | stuck =>
      rw [etot] at q
      exact q.elim
    | ok tot =>
      rw [etot] at q
      replace q : PostM X W .f σ H U Q (.ok (.dict tot)) := q
      have P1 := P.same s1
      have hLU : ¬ U L := P1.fresh hL
      have k1 : Kp U (fun a => U a ∨ a = L) H1 (upd H1 L (.dK [])) := ⟨fun a o e _ => same_new hL a o e, fun a z => z.imp id fun e => by rw [e]; exact hL⟩
      have P2 : Pt X.K H0 (L2.wipe σ vs) (upd H1 L (.dK [])) (wipeR ρ vs) fun a => U a ∨ a = L := by
        refine (P1.wipe vs).kp k1 (fun a z => .inl z) (fun i d a _ _ o e => same_new hL a o e) (fun a z => ?_) (P1.s0.trans (same_new hL))
        rcases z with z | rfl
        · obtain ⟨o, e, m⟩ := P1.ud a z
          exact ⟨o, same_new hL a o e, m⟩
        · exact ⟨_, upd_same, .inr ⟨_, rfl⟩⟩
      refine ⟨fun i m H' => m = ds.length - i ∧ i ≤ ds.length ∧ ∃ es, dcL (turnK t ft fk fv (wipeR ρ vs)) (ds.drop i) es = .ok tot ∧ DcW X.K H0 (L2.wipe σ vs) H1 (wipeR ρ vs) U L es H',
        ⟨ds.length, by simp, Nat.zero_le _, [], by simpa using etot, P2, same_new hL, [], upd_same, .nil⟩, ?_⟩
      rintro i m H3 ⟨rfl, hi, es, er, w⟩
      have kb : Kb true U H1 (fun a => U a ∨ a = L) H3 := ⟨fun p hp => w.pt.fresh hp, fun a z => z.imp id fun e => by rw [e]; exact hL, w.sm⟩
      obtain ⟨jstop, jgo⟩ := jd _ _ kb
      by_cases hlt : i < ds.length
      · obtain ⟨j1, j2⟩ := jgo i _ (List.getElem?_eq_getElem hlt)
        have edrop : ds.drop i = ds[i] :: ds.drop (i + 1) := List.drop_eq_getElem_cons hlt
        rw [edrop] at er
        unfold dcL at er
        cases eg : turnK t ft fk fv (wipeR ρ vs) ds[i] with
        | exc c fs => rw [eg] at er; cases er
        | stuck => rw [eg] at er; cases er
        | ok o =>
        rw [eg] at er
        obtain ⟨ρ', bb, eb, et, ee⟩ := turnK_split eg
        refine .inr ⟨j1, fun H' => i + 1 ≤ ds.length ∧ ∃ es, dcL (turnK t ft fk fv (wipeR ρ vs)) (ds.drop (i + 1)) es = .ok tot ∧ DcW X.K H0 (L2.wipe σ vs) H1 (wipeR ρ vs) U L es H', fun H' h => ⟨ds.length - (i + 1), by omega, rfl, h.1, h.2⟩, fun x H4 hy => ?_⟩
        obtain ⟨s4, rx⟩ := j2 x H4 hy
        have P4 := w.pt.same s4
        obtain ⟨kvs, hacc, racc⟩ := w.acc
        refine ⟨wipeR ρ vs, _, ds[i], ρ', P4, rx, eb, fun σ5 P5 k5 => ⟨?_, ρ', _, P5, ?_⟩⟩
        · have l5 : σ5.length = (L2.wipe σ vs).length := by
            have h1 := P5.len
            have h2 := P4.len
            have h3 : ρ'.length = (wipeR ρ vs).length := bindT_len eb
            omega
          rw [wipe_get l5.symm (fun j hj => k5 j fun z => hj (hvs j z))]
          exact wipe_idem vs σ
        · rw [et]
          intro H5 s5
          have keep5 : H5 L = some (.dK kvs) := s5 _ _ (s4 _ _ hacc)
          cases bb with
          | false =>
            simp only [Bool.false_eq_true, if_false] at ee ⊢
            subst ee
            exact ⟨hlt, es, er, ⟨(w.pt.same s4).same s5, w.sm.trans (s4.trans s5), kvs, keep5, racc.mono (Kp.same (s4.trans s5))⟩⟩
          | true =>
            simp only [if_true] at ee ⊢
            obtain ⟨y, z, ey, ez, rfl⟩ := ee
            replace er : (match keyOf y with
              | some k => if es.length < sizeLine then dcL (turnK t ft fk fv (wipeR ρ vs)) (ds.drop (i + 1)) (putE es k z) else .stuck
              | none => .stuck) = .ok tot := er
            split at er
            case h_2 => cases er
            rename_i key hkey
            split at er
            case isFalse => cases er
            rename_i hz
            refine ⟨ρ', _, P5.same s5, ?_⟩
            rw [ey]
            intro yk H6 s6 ry
            refine ⟨ρ', _, (P5.same s5).same s6, ?_⟩
            rw [ez]
            intro yv H7 s7 rz
            have keep7 : H7 L = some (.dK kvs) := s7 _ _ (s6 _ _ keep5)
            have s47 := s4.trans (s5.trans (s6.trans s7))
            obtain ⟨e1, e2⟩ := keyOf_brep hkey (.inl ry)
            refine ⟨kvs, key, e1, keep7, by rw [racc.length]; exact hz, hlt, putE es key z, er, ?_⟩
            have k7 : Kp (fun a => U a ∨ a = L) (fun a => U a ∨ a = L) H7 (upd H7 L (.dK (putK kvs key yv))) := ⟨fun a o e n => by
              rw [upd_ne (fun z => n (.inr z))]
              exact e, fun a z => .inl z⟩
            refine ⟨(w.pt.same s47).kp k7 (fun a z => z) (fun j d a h1 h2 o e => ?_) (fun a z => ?_) ?_, ?_, putK kvs key yv, upd_same, ?_⟩
            · have hne : a ≠ L := by
                rintro rfl
                have hs := (P1.wipe vs).sl j
                rw [h1, h2] at hs
                obtain ⟨a', e1, hu, _⟩ := hs
                cases e1
                exact hLU hu
              rw [upd_ne hne]
              exact e
            · by_cases hz : a = L
              · rw [hz]
                exact ⟨_, upd_same, .inr ⟨_, rfl⟩⟩
              · obtain ⟨o, e, m⟩ := (w.pt.same s47).ud a z
                exact ⟨o, by rw [upd_ne hz]; exact e, m⟩
            · intro a o e
              have hne : a ≠ L := by
                rintro rfl
                have := P1.s0 _ _ e
                rw [hL] at this
                cases this
              rw [upd_ne hne]
              exact s47 _ _ (w.pt.s0 _ _ e)
            · intro a o e
              have hne : a ≠ L := by
                rintro rfl
                rw [hL] at e
                cases e
              rw [upd_ne hne]
              exact s47 _ _ (w.sm _ _ e)
            · exact RepK.put (rz.mono k7) ((racc.mono (Kp.same s47)).mono k7)
      · have e : i = ds.length := by omega
        subst e
        rw [List.drop_length] at er
        cases er
        obtain ⟨kvs, hacc, racc⟩ := w.acc
        exact .inl ⟨jstop, q _ _ (s1.trans w.sm) ⟨L, rfl, s1.free hL, kvs, hacc, racc⟩⟩
theorem de_dc {kx vx tg iter : Expr} {ifs : List Expr} {scope : Scope} {own : List (Str × Nat)} {pos : Pos} {t : Tg} {fi : Rho → Out (List D)} {ft : Rho → Out Bool} {fk fv : Rho → Out D} (hc : X.calm = true) (hN : X.N.Nodup) (hi : DI X H0 W true tg iter fi) (ok : BlkOk X.N X.env.scope scope own) (hvs : ∀ j ∈ t.ixs, j ∈ own.map (·.2))
    (hg : ∀ s H C cl fp, DG (X.blk s H scope (compEnvC scope cl C X.env) fp) H0 tg t) (ht : ∀ s H C cl fp, PTsD (X.blk s H scope (compEnvC scope cl C X.env) fp) H0 W0 ifs ft)
    (hk : ∀ s H C cl fp, DE (X.blk s H scope (compEnvC scope cl C X.env) fp) H0 W0 .v kx fk) (he : ∀ s H C cl fp, DE (X.blk s H scope (compEnvC scope cl C X.env) fp) H0 W0 .v vx fv) (hs : ∀ x, foldedSetIterable iter X.env x = pure x) :
    DE X H0 W .f (.DictComp kx vx [⟨tg, iter, ifs, 0⟩] scope pos) fun ρ => (fi ρ).bind fun ds => (noxO (dcL (turnK t ft fk fv (wipeR ρ (own.map (·.2)))) ds [])).bind fun es => .ok (.dict es) :=
  PE.imp (L2.pe_dc (g := tDG X H0 t) (tt := tDT X H0 W0 ft) (tk := tD X H0 W0 .v fk) (tv := tD X H0 W0 .v fv) hc hN hi ok hg ht hk he hs) fun σ H Q h => dc_rule hvs h
end
/-! ## d.get -/
def getD1 : D → D → Out D
  | .dict es, k => match keyOf k with
    | some k => .ok ((lookE es k).getD .none)
    | none => .stuck
  | _, _ => .stuck
def getD2 : D → D → D → Out D
  | .dict es, k, d => match keyOf k with
    | some k => .ok ((lookE es k).getD d)
    | none => .stuck
  | _, _, _ => .stuck
section
variable {X : Cx} {H0 : Ent} {W : WX}
theorem tD.here {m : Md} {f : Rho → Out D} {σ : L2.St} {H : Hp} {ρ : Rho} {U : Addr → Prop} {Q : VK} (P : Pt X.K H0 σ H ρ U) (h : PostM X W m σ H U Q (f ρ)) : tD X H0 W m f σ H Q := ⟨ρ, U, P, h⟩
theorem PostM.first {m ma : Md} {σ : L2.St} {H : Hp} {ρ : Rho} {U : Addr → Prop} (P : Pt X.K H0 σ H ρ U) {r : Out D} {k : D → Out D} {Q Q' : VK} (q : PostM X W m σ H U Q (r.bind k))
    (h : ∀ d v H', Same H H' → Pt X.K H0 σ H' ρ U → RepM X.K U H H' v d ma → PostM X W m σ H' U Q (k d) → Q' v H') : PostM X W ma σ H U Q' r := by
  cases r with
  | ok d => exact fun v H' s rv => h d v H' s (P.same s) rv (PostM.later s q)
  | exc c fs => exact q
  | stuck => exact q
theorem dget_is {U : Addr → Prop} {H : Hp} {v u : V} {es : List (D × D)} {k : D} {key : Key} (r : BRep X.K U H v (.dict es)) (hk : keyOf k = some key) (rk : BRep X.K U H u k) :
    ∃ a kvs, v = .ref a ∧ Rd H a (.dK kvs) ∧ u = kV key ∧ ((lookE es key = none ∧ valV kvs key = none) ∨ ∃ w d, lookE es key = some d ∧ valV kvs key = some w ∧ Rep X.K U H w d) := by
  obtain ⟨a, kvs, rfl, h1, t1⟩ := r.dct
  obtain ⟨rfl, rfl⟩ := keyOf_brep hk rk
  exact ⟨a, kvs, rfl, h1, rfl, t1.look key⟩
theorem de_get2 {o e f : Expr} {apos cpos : Pos} {fo fe ff : Rho → Out D} (hu : X.A.units + 64 < cLine) (ho : DE X H0 W .b o fo) (he : DE X H0 W .b e fe) (hf : DE X H0 W .v f ff) (m : M2 X o "get" apos e f cpos) :
    DE X H0 W .v (.Call (.Attribute o "get" apos) [e, f] [] cpos) fun ρ => (fo ρ).bind fun x => match x with
      | .dict es => (fe ρ).bind fun y => (ff ρ).bind fun z => getD2 (.dict es) y z
      | _ => .stuck :=
  PE.imp (pe_dget2 (by omega) ho he hf m) fun σ H Q ⟨ρ, U, P, q⟩ => ⟨ρ, U, P, PostM.first (ma := .b) P q fun d v H1 s1 P1 r1 q1 => by
    cases d with
    | dict es =>
      have r1' : BRep X.K U H1 v (.dict es) := r1
      obtain ⟨a, kvs, rfl, h1, t1⟩ := r1'.dct
      refine ⟨a, rfl, .inl ⟨kvs, h1⟩, ρ, U, P1, PostM.first (ma := .b) P1 (show PostM X W .v σ H1 U Q ((fe ρ).bind fun y => (ff ρ).bind fun z => getD2 (.dict es) y z) from q1) fun dk u H2 s2 P2 r2 q2 => ?_⟩
      refine ⟨ρ, U, P2, PostM.first (ma := .v) P2 q2 fun dz w H3 s3 P3 r3 q3 => ?_⟩
      replace q3 : PostM X W .v σ H3 U Q (match keyOf dk with
        | some k => .ok ((lookE es k).getD dz)
        | none => .stuck) := q3
      split at q3
      · rename_i key hk
        have r1'' : BRep X.K U H3 (.ref a) (.dict es) := BRep.same (s2.trans s3) r1'
        have r2' : BRep X.K U H3 u dk := BRep.same s3 r2
        obtain ⟨a', kvs', e1, h1', e2, hl⟩ := dget_is r1'' hk r2'
        cases e1
        rcases hl with ⟨l1, l2⟩ | ⟨x, dx, l1, l2, rx⟩
        · refine ⟨none, .inl ⟨kvs', key, h1', e2, l2.symm⟩, ?_⟩
          rw [l1] at q3
          exact q3.val r3
        · refine ⟨some x, .inl ⟨kvs', key, h1', e2, l2.symm⟩, ?_⟩
          rw [l1] at q3
          exact q3.val rx
      · exact q3.elim
    | _ => exact q1.elim⟩
end
end Mp
namespace Mp
open PySem PySem.Spec PyProof.Rows L2
/-! ## calls of own defs -/
def PostF (mg : Str → Option Value) (K : PySem.W.Frag) (B : Addr → Prop) (H : Hp) (Q : VK) (E : XK) : Out D → Prop
  | .ok d => ∀ v H', Same H H' → Rep K B H' v d → Q v H'
  | .exc c fs => ∀ cls dd H', Same H H' → ExR mg K H' c fs cls dd → E cls dd H'
  | .stuck => False
def spG (mg : Str → Option Value) (K : PySem.W.Frag) (n : Nat) (g : List D → Out D) : Sp := fun vs H Q E => ∃ (B : Addr → Prop) (ds : List D), (∀ a, B a → ∃ o, H a = some o ∧ MuO o) ∧ Reps K B H vs ds ∧ ds.length = n ∧ PostF mg K B H Q E (g ds)
mutual
def flat : D → Bool
  | .list _ => false
  | .dict _ => false
  | .tuple ds => flatL ds
  | _ => true
def flatL : List D → Bool
  | [] => true
  | d :: ds => flat d && flatL ds
end
section
variable {K : PySem.W.Frag} {U : Addr → Prop} {H : Hp}
theorem notMu_tup {a : Addr} {xs : List V} (hu : ∀ a, U a → ∃ o, H a = some o ∧ MuO o) (h : Rd H a (.tup xs)) : ¬ U a := fun z => by
  obtain ⟨o, e, m⟩ := hu a z
  rcases h with h | ⟨q, h⟩
  · rw [h] at e
    cases e
    rcases m with ⟨_, m⟩ | ⟨_, m⟩ <;> cases m
  · rw [h] at e
    cases e
    rcases m with ⟨_, m⟩ | ⟨_, m⟩ <;> cases m
mutual
theorem Rep.flat {B : Addr → Prop} (hu : ∀ a, U a → ∃ o, H a = some o ∧ MuO o) : ∀ {v : V} {d : D}, Rep K B H v d → flat d = true → Rep K U H v d
  | _, _, .non, _ => .non
  | _, _, .bl b, _ => .bl b
  | _, _, .int i, _ => .int i
  | _, _, .str x, _ => .str x
  | _, _, .tup h r, f => .tup (h.imp (fun q => ⟨notMu_tup hu q.2, q.2⟩) id) (Reps.flat hu r (by simpa [Mp.flat] using f))
  | _, _, .lst _ _ _, f => by simp [Mp.flat] at f
  | _, _, .dct _ _ _, f => by simp [Mp.flat] at f
theorem Reps.flat {B : Addr → Prop} (hu : ∀ a, U a → ∃ o, H a = some o ∧ MuO o) : ∀ {vs : List V} {ds : List D}, Reps K B H vs ds → flatL ds = true → Reps K U H vs ds
  | _, _, .nil, _ => .nil
  | _, _, .cons r t, f => by
    simp only [flatL, Bool.and_eq_true] at f
    exact .cons (Rep.flat hu r f.1) (Reps.flat hu t f.2)
end
theorem BReps.rep0 : ∀ {vs : List V} {ds : List D}, BReps K U H vs ds → Reps K NoU H vs ds
  | _, _, .nil => .nil
  | _, _, .cons r t => .cons r.rep0 (BReps.rep0 t)
/-- a root that may be owned -/
def rooty : D → Bool
  | .list _ => true
  | .dict _ => true
  | _ => false
theorem BReps.own : ∀ {vs : List V} {ds : List D}, BReps K U H vs ds → ds.any rooty = false → Reps K U H vs ds
  | _, _, .nil, _ => .nil
  | _, d :: _, .cons r t, h => by
    simp only [List.any_cons, Bool.or_eq_false_iff] at h
    refine .cons ?_ (BReps.own t h.2)
    rcases r with r | ⟨a, e, hu, o⟩
    · exact r
    · cases d with
      | list _ => simp [rooty] at h
      | dict _ => simp [rooty] at h
      | _ => exact o.elim
end
/-- a call whose arguments may be owned: what comes back then has no list, no dict -/
def callB (g : List D → Out D) (ds : List D) : Out D := (g ds).bind fun d => if ds.any rooty = true ∧ flat d = false then .stuck else .ok d
section
variable {X : Cx} {H0 : Ent} {W : WX} {CX : CXT} {k n : Nat} {f : Addr} {fd : FuncData} {ps : List Str} {g : List D → Out D} {x : Str} {p pos : Pos} {e : Expr} {es : List Expr} {fa : Rho → Out (List D)}
theorem nAr {ds : List D} (hg : ∀ ds, ds.length ≠ n → g ds = .stuck) {P : Out D → Prop} (hP : P .stuck → False) (q : P (g ds)) : ds.length = n := by
  by_cases h : ds.length = n
  · exact h
  · rw [hg ds h] at q
    exact (hP q).elim
theorem de_call (F : FnOk X.prog X.w X.K X.mg X.base (L2.CX X.prog X.w) k f fd ps (spG X.mg X.K n g)) (hgn : ∀ ds, ds.length ≠ n → g ds = .stuck) (hr : Room k X.A) (hg : Gl X x) (hm : X.mg x = some (.ref f)) (hk : PySem.W.keepIn X.K (.ref f) = true) (hb : Binds X.K fd ps []) (tk : Takes X W)
    (ha : DA X H0 W false (e :: es) fa) (hdb : (x == ("__debug__" : Str)) = false) (he : starEach (e :: es) X.env = (false, eval e X.env) :: starEach es X.env) (hpl : (backTo pos (starEach es X.env)).any (·.1) = false) :
    DE X H0 W .v (.Call (.Name x p) (e :: es) [] pos) fun ρ => (fa ρ).bind g :=
  PE.imp (pe_callS F hr hg hm hk hb (fun σ => passAt tk σ) ha hdb he hpl) fun σ H Q ⟨ρ, U, P, q⟩ => by
    refine ⟨ρ, U, P, ?_⟩
    replace q : PostM X W .v σ H U Q ((fa ρ).bind g) := q
    revert q
    cases fa ρ with
    | exc c fs => exact fun q => q
    | stuck => exact fun q => q
    | ok ds =>
      intro q vs H1 s1 r1
      replace q : PostM X W .v σ H U Q (g ds) := q
      refine ⟨U, ds, (P.same s1).ud, r1, nAr hgn (P := PostM X W .v σ H U Q) (fun z => z) q, ?_⟩
      revert q
      cases g ds with
      | exc c fs => exact fun q cls dd H' s' z => q cls dd H' (s1.trans s') z
      | stuck => exact fun q => q
      | ok d => exact fun q v H' s' r => q v H' (s1.trans s') r
theorem de_callBr (F : FnOk X.prog X.w X.K X.mg X.base (L2.CX X.prog X.w) k f fd ps (spG X.mg X.K n g)) (hgn : ∀ ds, ds.length ≠ n → g ds = .stuck) (hr : Room k X.A) (hg : Gl X x) (hm : X.mg x = some (.ref f)) (hk : PySem.W.keepIn X.K (.ref f) = true) (hb : Binds X.K fd ps []) (tk : Takes X W)
    (ha : DA X H0 W true (e :: es) fa) (hdb : (x == ("__debug__" : Str)) = false) (he : starEach (e :: es) X.env = (false, eval e X.env) :: starEach es X.env) (hpl : (backTo pos (starEach es X.env)).any (·.1) = false) :
    DE X H0 W .v (.Call (.Name x p) (e :: es) [] pos) fun ρ => (fa ρ).bind (callB g) :=
  PE.imp (pe_callS F hr hg hm hk hb (fun σ => passAt tk σ) ha hdb he hpl) fun σ H Q ⟨ρ, U, P, q⟩ => by
    refine ⟨ρ, U, P, ?_⟩
    replace q : PostM X W .v σ H U Q ((fa ρ).bind (callB g)) := q
    revert q
    cases fa ρ with
    | exc c fs => exact fun q => q
    | stuck => exact fun q => q
    | ok ds =>
      intro q vs H1 s1 r1
      replace q : PostM X W .v σ H U Q ((g ds).bind fun d => if ds.any rooty = true ∧ flat d = false then .stuck else .ok d) := q
      have r1 : BReps X.K U H1 vs ds := r1
      have hn : ds.length = n := by
        by_cases h : ds.length = n
        · exact h
        · rw [hgn ds h] at q
          exact q.elim
      by_cases hroot : ds.any rooty = true
      · refine ⟨NoU, ds, fun a z => z.elim, r1.rep0, hn, ?_⟩
        revert q
        cases g ds with
        | exc c fs => exact fun q cls dd H' s' z => q cls dd H' (s1.trans s') z
        | stuck => exact fun q => q
        | ok d =>
          intro q v H' s' r
          replace q : PostM X W .v σ H U Q (if ds.any rooty = true ∧ flat d = false then .stuck else .ok d) := q
          split at q
          · exact q.elim
          · rename_i hz
            have hfl : flat d = true := by
              cases hf : flat d with
              | true => rfl
              | false => exact absurd ⟨hroot, hf⟩ hz
            exact q v H' (s1.trans s') (Rep.flat ((P.same s1).same s').ud r hfl)
      · have hroot : ds.any rooty = false := by simpa using hroot
        refine ⟨U, ds, (P.same s1).ud, r1.own hroot, hn, ?_⟩
        revert q
        cases g ds with
        | exc c fs => exact fun q cls dd H' s' z => q cls dd H' (s1.trans s') z
        | stuck => exact fun q => q
        | ok d =>
          intro q v H' s' r
          replace q : PostM X W .v σ H U Q (if ds.any rooty = true ∧ flat d = false then .stuck else .ok d) := q
          rw [if_neg (by rw [hroot]; simp)] at q
          exact q v H' (s1.trans s') r
end
/-! ## x[k] = v, of what is owned -/
def putD (d k v : D) : Option D := match d with
  | .list ds => match k with
    | .int i => (ixN ds.length i).map fun j => .list (ds.set j v)
    | _ => none
  | .dict es => match keyOf k with
    | some key => if es.length < sizeLine then some (.dict (putE es key v)) else none
    | none => none
  | _ => none
def putS (i : Nat) (ρ : Rho) (k v : D) : SOut := match ρ[i]? with
  | some (some (true, d)) => match putD d k v with
    | some d' => .nx (ρ.set i (some (true, d')))
    | none => .stuck
  | _ => .stuck
theorem PS.or {X : Cx} {st : Stmt} {t t' : TS} (h : PS X st t) (h' : PS X st t') : PS X st fun Dn σ H => t Dn σ H ∨ t' Dn σ H := ⟨fun pins s σ H Dn I q => q.elim (h.run pins s σ H Dn I) (h'.run pins s σ H Dn I)⟩
section
variable {X : Cx} {H0 : Ent} {W : WX}
def isOwn (i : Nat) (ρ : Rho) : Option D := match ρ[i]? with
  | some (some (true, d)) => some d
  | _ => none
theorem ds_put {i : Nat} {x : Str} {ke ve : Expr} {fk fv : Rho → Out D} {p p2 pos : Pos} (hu : X.A.units + 64 < cLine) (hN : X.N[i]? = some x) (hv : Vis X.env.scope x) (hd : (x == ("__debug__" : Str)) = false) (hcd : (x == ("__classdict__" : Str)) = false)
    (hk : DE X H0 W .v ke fk) (hve : DE X H0 W .v ve fv) (hs : swapsWith ve (some (.Subscript (.Name x p) ke p2)) pos.line X.env = pure false)
    (hasg : ∀ v, assign (.Subscript (.Name x p) ke p2) X.env v = (do
      let ov ← holding [v] (eval (.Name x p) X.env)
      let iv ← holding [v, ov] (eval ke X.env)
      standAt p2
      holding [v, ov, iv] (setItem ov iv v)
      release [v, ov, iv] [])) :
    DS X H0 W (.Assign [.Subscript (.Name x p) ke p2] ve pos) fun ρ => match isOwn i ρ with
      | some _ => (fv ρ).st ρ fun v => (fk ρ).st ρ fun k => putS i ρ k v
      | none => .stuck :=
  PS.imp (PS.or (ps_dput (by omega) (pe_var hN hv hd hcd) hk hve hs) (ps_asg hve (pg_sub (pe_var hN hv hd hcd) hk set_list hasg) hs rfl rfl)) fun Dn σ H ⟨ρ, U, P, q⟩ => by
    replace q : PostS X H0 W Dn H U (match isOwn i ρ with
      | some _ => (fv ρ).st ρ fun v => (fk ρ).st ρ fun k => putS i ρ k v
      | none => .stuck) := q
    unfold isOwn at q
    cases hi : ρ[i]? with
    | none => rw [hi] at q; exact q.elim
    | some o =>
    rw [hi] at q
    cases o with
    | none => exact q.elim
    | some bd =>
    obtain ⟨b, d⟩ := bd
    cases b with
    | false => exact q.elim
    | true =>
    replace q : PostS X H0 W Dn H U ((fv ρ).st ρ fun v => (fk ρ).st ρ fun k => putS i ρ k v) := q
    have hs := P.sl i
    rw [hi] at hs
    obtain ⟨a, e1, hua, h0, ow⟩ := hs
    cases d with
    | dict es =>
      obtain ⟨kvs, e2, rs⟩ := ow
      refine .inl ⟨ρ, U, P, PostS.expr (m := .v) P q fun dv v H1 _ s1 P1 rv q1 => ⟨.ref a, e1, ρ, U, P1, PostS.expr (m := .v) P1 q1 fun dk kv H2 _ s2 P2 rk q2 => ?_⟩⟩
      unfold putS at q2
      rw [hi] at q2
      replace q2 : PostS X H0 W Dn H2 U (match putD (.dict es) dk dv with
        | some d' => .nx (ρ.set i (some (true, d')))
        | none => .stuck) := q2
      unfold putD at q2
      cases hk : keyOf dk with
      | none =>
        simp only [hk] at q2
        exact q2.elim
      | some key =>
        simp only [hk] at q2
        by_cases hz : es.length < sizeLine
        · rw [if_pos hz] at q2
          replace q2 : PostS X H0 W Dn H2 U (.nx (ρ.set i (some (true, .dict (putE es key dv))))) := q2
          obtain ⟨ek, _⟩ := keyOf_brep hk (.inl rk)
          have l := rs.length
          have s12 := s1.trans s2
          obtain ⟨P3, k3⟩ := P2.write (d' := .dict (putE es key dv)) (o := .dK (putK kvs key v)) hi e1 (.inr ⟨_, rfl⟩) fun k => ⟨_, upd_same, RepK.put ((Rep.mono (Kp.same s2) rv).mono k) ((rs.mono (Kp.same s12)).mono k)⟩
          exact ⟨a, _, rfl, .inl ⟨kvs, key, s12 _ _ e2, ek, by omega, rfl⟩, q2 _ _ U k3 P3⟩
        · rw [if_neg hz] at q2
          exact q2.elim
    | list ds =>
      obtain ⟨vs, e2, rs⟩ := ow
      refine .inr ⟨ρ, U, P, PostS.expr (m := .v) P q fun dv v H1 _ s1 P1 rv q1 => ⟨.ref a, e1, ρ, U, P1, PostS.expr (m := .v) P1 q1 fun dk kv H2 _ s2 P2 rk q2 => ?_⟩⟩
      unfold putS at q2
      rw [hi] at q2
      replace q2 : PostS X H0 W Dn H2 U (match putD (.list ds) dk dv with
        | some d' => .nx (ρ.set i (some (true, d')))
        | none => .stuck) := q2
      cases dk with
      | int m =>
        have rk : Rep X.K U H2 kv (.int m) := rk
        cases rk
        cases hj : ixN ds.length m with
        | none =>
          simp only [putD, hj] at q2
          exact q2.elim
        | some j =>
          simp only [putD, hj] at q2
          replace q2 : PostS X H0 W Dn H2 U (.nx (ρ.set i (some (true, .list (ds.set j dv))))) := q2
          have l := rs.length
          have s12 := s1.trans s2
          obtain ⟨P3, k3⟩ := P2.write (d' := .list (ds.set j dv)) (o := .lst (vs.set j v)) hi e1 (.inl ⟨_, rfl⟩) fun k => ⟨_, upd_same, Reps.set ((Rep.mono (Kp.same s2) rv).mono k) ((rs.mono (Kp.same s12)).mono k) j⟩
          exact ⟨a, vs, m, j, rfl, rfl, s12 _ _ e2, by rw [l]; exact hj, q2 _ _ U k3 P3⟩
      | _ => exact q2.elim
    | _ => exact ow.elim
/-! ## x op= e, ints -/
def augD (op : Operator) (x y : D) : Out D := match op with
  | .Add => match x, y with
    | .int i, .int j => .ok (.int (i + j))
    | _, _ => .stuck
  | .Sub => match x, y with
    | .int i, .int j => .ok (.int (i - j))
    | _, _ => .stuck
  | _ => .stuck
theorem ds_aug {i : Nat} {x : Str} {e : Expr} {op : Operator} {fe : Rho → Out D} {h : Int → Int → Int} {p pos : Pos} (hip : PIp X op (ipI h)) (hop : ∀ x y, augD op x y = match x, y with
      | .int i, .int j => .ok (.int (h i j))
      | _, _ => .stuck) (hN : X.N.Nodup) (hi : X.N[i]? = some x) (hx : Loc X.env.scope x) (hf : X.fn x = true ∨ X.env.scope.names.lookup x = some .local) (he : DE X H0 W .v e fe) :
    DS X H0 W (.AugAssign (.Name x p) op e pos) fun ρ => match getV ρ i with
      | .ok d => (fe ρ).st ρ fun y => (augD op d y).st ρ (setV i ρ)
      | _ => .stuck :=
  PS.imp (ps_aug hN hi hx he hip hf) fun Dn σ H ⟨ρ, U, P, q⟩ => by
    replace q : PostS X H0 W Dn H U (match getV ρ i with
      | .ok d => (fe ρ).st ρ fun y => (augD op d y).st ρ (setV i ρ)
      | _ => .stuck) := q
    have z := P.sl i
    unfold getV at q
    cases hi2 : ρ[i]? with
    | none => rw [hi2] at q; exact q.elim
    | some o =>
    rw [hi2] at q z
    cases o with
    | none => exact q.elim
    | some bd =>
    obtain ⟨b, d⟩ := bd
    cases b with
    | true => exact q.elim
    | false =>
    obtain ⟨v, e1, rv⟩ := z
    replace q : PostS X H0 W Dn H U ((fe ρ).st ρ fun y => (augD op d y).st ρ (setV i ρ)) := q
    refine ⟨v, e1, ρ, U, P, PostS.expr (m := .v) P q fun dy y H1 _ s1 P1 ry q1 => ?_⟩
    rw [hop] at q1
    cases d with
    | int a => cases dy with
      | int c =>
        have ry : Rep X.K U H1 y (.int c) := ry
        cases rv
        cases ry
        exact ⟨a, c, rfl, rfl, q1 _ H1 U Kp.rfl (P1.set i (.int _))⟩
      | _ => exact q1.elim
    | _ => cases dy <;> exact q1.elim
end
/-! ## a def's body gives the def -/
def rho0 (n : Nat) (ds : List D) : Rho := ds.map (fun d => some (false, d)) ++ List.replicate (n - ds.length) none
theorem start_sl {K : PySem.W.Frag} {H0 : Ent} {B : Addr → Prop} {H : Hp} {N : List Str} : ∀ {vs : List V} {ds : List D} (m : Nat), Reps K B H vs ds → ∀ (i : Nat), SlotR K H0 B H ((vs.map some ++ List.replicate m none : List (Option V))[i]?) ((ds.map (fun d => some (false, d)) ++ List.replicate m none : Rho)[i]?)
  | _, _, m, .nil, i => by
    simp only [List.map_nil, List.nil_append, List.getElem?_replicate]
    split
    · rename_i h
      trivial
    · trivial
  | _, _, m, .cons r t, 0 => ⟨_, rfl, r⟩
  | _, _, m, .cons r t, i + 1 => start_sl (N := N) m t i
/-- the function's answer from its body's -/
def SOut.fin : SOut → Out D
  | .nx _ => .ok .none
  | .ret d => .ok d
  | .exc c fs _ => .exc c fs
  | _ => .stuck
theorem fn_ok {P : Program} {w : World} {K : PySem.W.Frag} {mg : Str → Option Value} {base : Heap} {x qual : Str} {params : Arguments} {body : List Stmt} {scope : Scope} {f : Addr} {fd : FuncData} {N ps : List Str} {k : Nat} {g : List D → Out D} {fb : Rho → SOut} {dvs : List V} {kws : List (Str × V)}
    (F : FunD K x qual params body scope dvs kws f fd) (S : FnScope N ps scope) (hg : ∀ ds, ds.length = ps.length → g ds = (fb (rho0 N.length ds)).fin)
    (hb : ∀ (cdv : Value) (A : Around) (outer : List Env) (s : Shared) (H : Hp) (E : XK) (H0 : Ent), Room k (A.deeper (envOfC qual scope s.heap.objs.size f cdv)) → DSs (cxOf (L2.CX P w) P w K mg base N qual scope f cdv A outer s H E) H0 (fun cls dd _ H' => E cls dd H') body fb) :
    FnOk P w K mg base (L2.CX P w) (k + 1) f fd ps (spG mg K ps.length g) := by
  refine F.ok S (fun vs H Q E ⟨B, ds, _, r, hl, _⟩ => by rw [Reps.length r]; exact hl) fun cdv A outer s H vs Q E hr ⟨B, ds, hB, r, hl, q⟩ => ?_
  refine ⟨_, hb cdv A outer s H E ⟨H, B⟩ hr, rho0 N.length ds, B, ?_, ?_⟩
  · have lv := Reps.length r
    have hpl : ps.length ≤ N.length := by have := congrArg List.length S.pre; rw [List.length_take] at this; omega
    refine ⟨?_, fun i => ?_, fun i j d e a h1 => ?_, hB, fun a z => z, fun a z => (hB a z).imp fun o e => e.1, Same.refl H⟩
    · unfold L2.start rho0
      rw [List.length_append, List.length_append, List.length_map, List.length_map, List.length_replicate, List.length_replicate, lv]
    · have := start_sl (N := N) (H0 := ⟨H, B⟩) (N.length - vs.length) r i
      unfold L2.start rho0
      rw [lv] at this ⊢
      exact this
    · have no : ∀ (ds : List D) (m i : Nat) (d : D), ((ds.map (fun d => some (false, d)) ++ List.replicate m none : Rho)[i]?) = some (some (true, d)) → False := by
        intro ds
        induction ds with
        | nil =>
          intro m i d h
          simp only [List.map_nil, List.nil_append, List.getElem?_replicate] at h
          split at h <;> cases h
        | cons e ds ih =>
          intro m i d h
          cases i with
          | zero => cases h
          | succ i => exact ih m i d h
      exact (no _ _ _ _ h1).elim
  · rw [hg ds hl] at q
    show PostS _ _ _ _ H B (fb (rho0 N.length ds))
    revert q
    cases fb (rho0 N.length ds) with
    | nx ρ => exact fun q σ' H' U' _ P' => q .non H' P'.s0 .non
    | ret d => exact fun q v H' s' r' => q v H' s' r'
    | brk ρ => exact fun q => q.elim
    | ct ρ => exact fun q => q.elim
    | exc c fs ρ => exact fun q cls dd σ' H' U' _ P' x => q cls dd H' P'.s0 x
    | stuck => exact fun q => q.elim
end Mp
namespace Mp
open PySem PySem.Spec PyProof.Rows L2
/-! ## the code, its meaning -/
inductive BOp where
  | add | sub | mul | fdiv | mod | pow
inductive COp where
  | eq | ne | lt | gt | le | ge | isN | notN | inn | out
def BOp.f : BOp → D → D → Out D
  | .add => addD | .sub => subD | .mul => mulD | .fdiv => fdivD | .mod => modD | .pow => powD
def COp.f : COp → D → D → Out D
  | .eq => eqD | .ne => neD | .lt => ltD | .gt => gtD | .le => leD | .ge => geD | .isN => isND | .notN => notND | .inn => inD | .out => notInD
/-- built-ins -/
inductive Bi where
  | len | abs | int | str | sum | all | any | max | min | tuple | list | dict | sorted
def or2 (f : D → Out D) (g : D → D → Out D) : List D → Out D
  | [x] => f x
  | [x, y] => g x y
  | _ => .stuck
def Bi.f : Bi → List D → Out D
  | .len => one lenF | .abs => one absF | .int => one intF | .str => one strF | .sum => one sumF | .all => one allF | .any => one anyF
  | .max => or2 maxF maxF2 | .min => or2 minF minF2 | .tuple => one tupleF | .list => one listF | .dict => one dictF | .sorted => one sortedF
mutual
inductive C where
  | lit (d : D)
  | var (i : Nat)
  | varB (i : Nat)
  | bin (o : BOp) (a b : C)
  | neg (a : C)
  | cmp (o : COp) (a b : C)
  | chain (o o' : COp) (a b c : C)
  | not (a : C)
  | and (a b : C)
  | or (a b : C)
  | ite (t : T) (a b : C)
  | idx (a b : C)
  | slice (a : C) (lo hi : Co)
  | tup (es : Cs)
  | lst (es : Cs)
  | dct0
  | bi (b : Bi) (es : Cs)
  | isi (a : C) (t : String)
  | call (f : Nat) (es : Cs)
  | callB (f : Nat) (es : Cs)
  | get2 (o k d : C)
  | lc (t : Tg) (it : Ci) (w : Ct) (e : C) (vs : List Nat)
  | dc (t : Tg) (it : Ci) (w : Ct) (k v : C) (vs : List Nat)
inductive Cs where
  | nil
  | cons (c : C) (cs : Cs)
inductive Co where
  | no
  | yes (c : C)
inductive Ci where
  | pl (c : C)
  | rg1 (es : Cs)
  | rg2 (es : Cs)
  | zip (es : Cs)
  | enum (es : Cs)
inductive Ct where
  | no
  | yes (t : T)
inductive T where
  | tr (c : C)
  | cmp (o : COp) (a b : C)
  | chain (o o' : COp) (a b c : C)
  | not (t : T)
  | and (a b : T)
  | or (a b : T)
  | ite (t a b : T)
end
section
variable (G : Nat → List D → Out D)
mutual
def ev : C → Rho → Out D
  | .lit d, _ => .ok d
  | .var i, ρ => getV ρ i
  | .varB i, ρ => getB ρ i
  | .bin o a b, ρ => (ev a ρ).bind fun x => (ev b ρ).bind fun y => o.f x y
  | .neg a, ρ => (ev a ρ).bind negD
  | .cmp o a b, ρ => (ev a ρ).bind fun x => (ev b ρ).bind fun y => o.f x y
  | .chain o o' a b c, ρ => (ev a ρ).bind fun x => (ev b ρ).bind fun y => chainD x y o.f o'.f (ev c ρ)
  | .not a, ρ => ((ev a ρ).bind truthD).bind fun k => .ok (.bool (!k))
  | .and a b, ρ => (ev a ρ).bind fun d => (truthD d).bind fun k => if k = true then ev b ρ else .ok d
  | .or a b, ρ => (ev a ρ).bind fun d => (truthD d).bind fun k => if k = true then .ok d else ev b ρ
  | .ite t a b, ρ => (evT t ρ).bind fun k => if k = true then ev a ρ else ev b ρ
  | .idx a b, ρ => (ev a ρ).bind fun x => (ev b ρ).bind fun y => idxD x y
  | .slice a lo hi, ρ => (ev a ρ).bind fun x => (evO lo ρ).bind fun l => (evO hi ρ).bind fun h => sliceD x l h
  | .tup es, ρ => (evs es ρ).bind tupD
  | .lst es, ρ => (evs es ρ).bind lstD
  | .dct0, _ => .ok (.dict [])
  | .bi b es, ρ => (evs es ρ).bind b.f
  | .isi a t, ρ => (ev a ρ).bind fun d => .ok (.bool (isiB d t))
  | .call f es, ρ => (evs es ρ).bind (G f)
  | .callB f es, ρ => (evs es ρ).bind (callB (G f))
  | .get2 o k d, ρ => (ev o ρ).bind fun x => match x with
      | .dict es => (ev k ρ).bind fun y => (ev d ρ).bind fun z => getD2 (.dict es) y z
      | _ => .stuck
  | .lc t it w e vs, ρ => (evI it ρ).bind fun ds => (noxO (lcL (turnD t (evW w) (ev e) (wipeR ρ vs)) ds)).bind lstD
  | .dc t it w k v vs, ρ => (evI it ρ).bind fun ds => (noxO (dcL (turnK t (evW w) (ev k) (ev v) (wipeR ρ vs)) ds [])).bind fun es => .ok (.dict es)
def evs : Cs → Rho → Out (List D)
  | .nil, _ => .ok []
  | .cons c cs, ρ => (ev c ρ).bind fun x => (evs cs ρ).bind fun xs => .ok (x :: xs)
def evO : Co → Rho → Out (Option Int)
  | .no, _ => .ok none
  | .yes c, ρ => (ev c ρ).bind partD
def evI : Ci → Rho → Out (List D)
  | .pl c, ρ => (ev c ρ).bind itemsD
  | .rg1 es, ρ => (evs es ρ).bind range1D
  | .rg2 es, ρ => (evs es ρ).bind range2D
  | .zip es, ρ => (evs es ρ).bind zipD
  | .enum es, ρ => (evs es ρ).bind enumD
def evW : Ct → Rho → Out Bool
  | .no, _ => .ok true
  | .yes t, ρ => evT t ρ
def evT : T → Rho → Out Bool
  | .tr c, ρ => (ev c ρ).bind truthD
  | .cmp o a b, ρ => ((ev a ρ).bind fun x => (ev b ρ).bind fun y => o.f x y).bind boolD
  | .chain o o' a b c, ρ => ((ev a ρ).bind fun x => (ev b ρ).bind fun y => chainD x y o.f o'.f (ev c ρ)).bind boolD
  | .not t, ρ => (evT t ρ).bind fun k => .ok (!k)
  | .and a b, ρ => (evT a ρ).bind fun k => if k = true then evT b ρ else .ok false
  | .or a b, ρ => (evT a ρ).bind fun k => if k = true then .ok true else evT b ρ
  | .ite t a b, ρ => (evT t ρ).bind fun k => if k = true then evT a ρ else evT b ρ
end
end
/-! ### statements -/
mutual
inductive S where
  | set (i : Nat) (e : C)
  | setF (i : Nat) (e : C)
  | asg (t : Tg) (e : C)
  | par (ts : List Tg) (es : Cs)
  | app (i : Nat) (e : C)
  | put (i : Nat) (k v : C)
  | aug (i : Nat) (o : Operator) (e : C)
  | exp (e : C)
  | ret (e : C)
  | retN
  | ite (t : T) (a b : Ss)
  | for_ (t : Tg) (it : Ci) (b : Ss)
  | whl (t : T) (b : Ss)
  | pass
  | brk
  | ct
  | never
  | dem (is : List Nat) (s : S)
inductive Ss where
  | nil
  | cons (s : S) (ss : Ss)
end
/-- a while loop, by any number of turns -/
noncomputable def whileR (fc : Rho → Out Bool) (fb : Rho → SOut) (ρ : Rho) : SOut :=
  @dite SOut (∃ n, whileF fc fb n ρ ≠ .stuck) (Classical.propDecidable _) (fun h => whileF fc fb h.choose ρ) fun _ => .stuck
section
variable (G : Nat → List D → Out D)
mutual
noncomputable def ex : S → Rho → SOut
  | .set i e, ρ => (ev G e ρ).st ρ (setV i ρ)
  | .setF i e, ρ => (ev G e ρ).st ρ (setF i ρ)
  | .asg t e, ρ => (ev G e ρ).st ρ (bindS t ρ)
  | .par ts es, ρ => (evs G es ρ).st ρ (bindsS ts ρ)
  | .app i e, ρ => if ownL i ρ = true then (ev G e ρ).st ρ (appD i ρ) else .stuck
  | .put i k v, ρ => match isOwn i ρ with
      | some _ => (ev G v ρ).st ρ fun v => (ev G k ρ).st ρ fun k => putS i ρ k v
      | none => .stuck
  | .aug i o e, ρ => match getV ρ i with
      | .ok d => (ev G e ρ).st ρ fun y => (augD o d y).st ρ (setV i ρ)
      | _ => .stuck
  | .exp e, ρ => (ev G e ρ).st ρ fun _ => .nx ρ
  | .ret e, ρ => (ev G e ρ).st ρ .ret
  | .retN, _ => .ret .none
  | .ite t a b, ρ => (evT G t ρ).st ρ fun k => if k = true then exs a ρ else exs b ρ
  | .for_ t it b, ρ => (evI G it ρ).st ρ fun ds => forL t (exs b) ds ρ
  | .whl t b, ρ => whileR (evT G t) (exs b) ρ
  | .pass, ρ => .nx ρ
  | .brk, ρ => .brk ρ
  | .ct, ρ => .ct ρ
  | .never, _ => .stuck
  | .dem is s, ρ => ex s (dem is ρ)
noncomputable def exs : Ss → Rho → SOut
  | .nil, ρ => .nx ρ
  | .cons s ss, ρ => (ex s ρ).seq (exs ss)
end
end
/-! ### the program -/
structure Fn where
  np : Nat
  nn : Nat
  body : Ss
noncomputable def run (P : List (Nat × Fn)) : Nat → Nat → List D → Out D
  | 0, _, _ => .stuck
  | n + 1, i, ds => match P.lookup i with
    | none => .stuck
    | some fn => if ds.length = fn.np then (exs (run P n) fn.body (rho0 fn.nn ds)).fin else .stuck
theorem run_arity (P : List (Nat × Fn)) (n i : Nat) {fn : Fn} (h : P.lookup i = some fn) (ds : List D) (hl : ds.length ≠ fn.np) : run P n i ds = .stuck := by
  cases n with
  | zero => rfl
  | succ n =>
    unfold run
    rw [h]
    exact if_neg hl
/-! ### turns of a while loop -/
theorem whileF_mono {fc : Rho → Out Bool} {fb : Rho → SOut} : ∀ {n m : Nat} {ρ : Rho}, whileF fc fb n ρ ≠ .stuck → n ≤ m → whileF fc fb m ρ = whileF fc fb n ρ
  | 0, _, _, h, _ => absurd rfl h
  | n + 1, 0, _, _, h => absurd h (Nat.not_succ_le_zero n)
  | n + 1, m + 1, ρ, h, hm => by
    unfold whileF at h ⊢
    cases e : fc ρ with
    | exc c fs => rfl
    | stuck => rfl
    | ok k =>
      rw [e] at h
      cases k with
      | false => rfl
      | true =>
        have h' : (match fb ρ with
          | .nx ρ2 => whileF fc fb n ρ2
          | .ct ρ2 => whileF fc fb n ρ2
          | .brk ρ2 => .nx ρ2
          | .ret d => .ret d
          | .exc c fs ρ2 => .exc c fs ρ2
          | .stuck => .stuck) ≠ SOut.stuck := h
        show (match fb ρ with
          | .nx ρ2 => whileF fc fb m ρ2
          | .ct ρ2 => whileF fc fb m ρ2
          | .brk ρ2 => .nx ρ2
          | .ret d => .ret d
          | .exc c fs ρ2 => .exc c fs ρ2
          | .stuck => .stuck) = (match fb ρ with
          | .nx ρ2 => whileF fc fb n ρ2
          | .ct ρ2 => whileF fc fb n ρ2
          | .brk ρ2 => .nx ρ2
          | .ret d => .ret d
          | .exc c fs ρ2 => .exc c fs ρ2
          | .stuck => .stuck)
        cases e2 : fb ρ with
        | nx ρ2 =>
          rw [e2] at h'
          exact whileF_mono h' (Nat.le_of_succ_le_succ hm)
        | ct ρ2 =>
          rw [e2] at h'
          exact whileF_mono h' (Nat.le_of_succ_le_succ hm)
        | brk ρ2 => rfl
        | ret d => rfl
        | exc c fs ρ2 => rfl
        | stuck => rfl
theorem whileR_eq {fc : Rho → Out Bool} {fb : Rho → SOut} {n : Nat} {ρ : Rho} (h : whileF fc fb n ρ ≠ .stuck) : whileR fc fb ρ = whileF fc fb n ρ := by
  have hx : ∃ n, whileF fc fb n ρ ≠ .stuck := ⟨n, h⟩
  unfold whileR
  rw [dif_pos hx]
  have h2 := hx.choose_spec
  rcases Nat.le_total n hx.choose with q | q
  · exact whileF_mono h q
  · exact (whileF_mono h2 q).symm
theorem whileR_or {fc : Rho → Out Bool} {fb : Rho → SOut} (ρ : Rho) : whileR fc fb ρ = .stuck ∨ ∃ n, whileR fc fb ρ = whileF fc fb n ρ := by
  unfold whileR
  split
  · rename_i h
    exact .inr ⟨_, rfl⟩
  · exact .inl rfl
end Mp
namespace Mp
open PySem PySem.Spec PyProof.Rows L2
/-! ## what a text's expression means: the translation -/
structure Ctx where
  N : List Str
  sc : Scope
  fn : Str → Bool
  con : List (Str × D)
  fns : List (Str × Nat × Bool)
  ow : List Nat
def Ctx.blk (Γ : Ctx) (scope : Scope) : Ctx := { Γ with sc := relS scope Γ.sc, fn := fun x => scope.names.lookup x == some .cell }
def biNames : List Str := ["len", "abs", "int", "str", "sum", "all", "any", "max", "min", "tuple", "list", "dict", "sorted", "isinstance", "bool", "range", "zip", "enumerate"]
/-- what is known of the frame -/
structure GE (X : Cx) (Γ : Ctx) (W : WX) (k : Nat) (G : Nat → List D → Out D) : Prop where
  N : X.N = Γ.N
  nd : Γ.N.Nodup
  sc : X.env.scope = Γ.sc
  kd : Γ.sc.kind = .function
  calm : X.calm = true
  fn : ∀ x, Γ.fn x = true → X.fn x = true
  room : Room k X.A
  tk : Takes X W
  con : ∀ x d, Γ.con.lookup x = some d → ∃ u v, X.mg x = some u ∧ RelV v u ∧ WrRep X.K v d
  fns : ∀ x i b, Γ.fns.lookup x = some (i, b) → ∃ n f fd ps, FnOk X.prog X.w X.K X.mg X.base (L2.CX X.prog X.w) k f fd ps (spG X.mg X.K n (G i)) ∧ (∀ ds, ds.length ≠ n → G i ds = .stuck) ∧ X.mg x = some (.ref f) ∧ PySem.W.keepIn X.K (.ref f) = true ∧ Binds X.K fd ps []
  bi : ∀ x ∈ biNames, X.mg x = none
theorem takes_no {X : Cx} : Takes X W0 := fun _ _ ⟨_, _, _, _, _, _, _, _, _, _, _, _, _, _, _, _, w⟩ => w.elim
theorem GE.blk {X : Cx} {Γ : Ctx} {W : WX} {k : Nat} {G : Nat → List D → Out D} (g : GE X Γ W k G) {scope : Scope} (hk : scope.kind = .function) (s : Shared) (H : Hp) (C : Addr) (cl : List (Str × Addr)) (fp : List Addr) : GE (X.blk s H scope (compEnvC scope cl C X.env) fp) (Γ.blk scope) W0 k G where
  N := g.N
  nd := g.nd
  sc := by
    show relS scope X.env.scope = relS scope Γ.sc
    rw [g.sc]
  kd := hk
  calm := g.calm
  fn := fun x h => h
  room := g.room
  tk := takes_no
  con := g.con
  fns := g.fns
  bi := g.bi
/-! ### names -/
def ixOf (x : Str) : List Str → Option Nat
  | [] => none
  | y :: ys => if x = y then some 0 else (ixOf x ys).map (· + 1)
theorem ixOf_ok {x : Str} : ∀ {N : List Str} {i : Nat}, ixOf x N = some i → N[i]? = some x
  | [], _, h => by cases h
  | y :: ys, i, h => by
    unfold ixOf at h
    split at h
    · rename_i e
      cases h
      rw [e]
      rfl
    · obtain ⟨j, h1, rfl⟩ := Option.map_eq_some_iff.mp h
      simpa using ixOf_ok h1
def visB (sc : Scope) (x : Str) : Bool := match sc.names.lookup x with
  | some .local => true
  | some .cell => true
  | some .free => true
  | _ => false
def locB (sc : Scope) (x : Str) : Bool := match sc.names.lookup x with
  | some .local => true
  | some .cell => true
  | _ => false
def glB (sc : Scope) (x : Str) : Bool := match sc.names.lookup x with
  | some .globalImplicit => true
  | _ => false
theorem visB_ok {sc : Scope} {x : Str} (h : visB sc x = true) : Vis sc x := by
  unfold visB at h
  unfold Vis
  split at h <;> first | (rename_i e; simp [e]) | cases h
theorem locB_ok {sc : Scope} {x : Str} (h : locB sc x = true) : Loc sc x := by
  unfold locB at h
  unfold L2.Loc
  split at h <;> first | (rename_i e; simp [e]) | cases h
theorem glB_ok {sc : Scope} {x : Str} (h : glB sc x = true) : sc.names.lookup x = some .globalImplicit := by
  unfold glB at h
  split at h
  · assumption
  · cases h
def okNm (x : Str) : Bool := !(x == ("__debug__" : Str)) && !(x == ("__classdict__" : Str)) && !(x == ("__name__" : Str))
theorem okNm_ok {x : Str} (h : okNm x = true) : (x == ("__debug__" : Str)) = false ∧ (x == ("__classdict__" : Str)) = false ∧ x ≠ "__name__" := by
  unfold okNm at h
  simp only [Bool.and_eq_true, Bool.not_eq_true'] at h
  exact ⟨h.1.1, h.1.2, fun e => by have := h.2; rw [e] at this; simp at this⟩
/-! ### forms -/
def notStar : Expr → Bool
  | .Starred .. => false
  | _ => true
theorem star_cons {e : Expr} (h : notStar e = true) (es : List Expr) (env : Env) : starEach (e :: es) env = (false, eval e env) :: starEach es env := by
  cases e <;> first | rfl | cases h
theorem star_pl {es : List Expr} (h : es.all notStar = true) (env : Env) (pos : Pos) : (backTo pos (starEach es env)).any (·.1) = false := by
  induction es with
  | nil => rfl
  | cons e es ih =>
    simp only [List.all_cons, Bool.and_eq_true] at h
    rw [star_cons h.1]
    show (false || (backTo pos (starEach es env)).any (·.1)) = false
    rw [ih h.2]
    rfl
def plainIx : Expr → Bool
  | .Slice .. => false
  | _ => true
theorem plainIx_ok {e : Expr} (h : plainIx e = true) : PlainIx e := by
  intro o i
  cases e <;> first | rfl | cases h
def plainT : Expr → Bool
  | .UnaryOp .Not _ _ => false
  | .BoolOp .. => false
  | .IfExp .. => false
  | .Compare .. => false
  | _ => true
theorem plainT_ok {e : Expr} (h : plainT e = true) (env : Env) : Plain1 e env := by
  intro w
  cases e with
  | UnaryOp op a p => cases op <;> first | rfl | cases h
  | BoolOp op a p => cases h
  | IfExp a b c p => cases h
  | Compare a b c p => cases h
  | _ => rfl
def notSet : Expr → Bool
  | .Set .. => false
  | _ => true
theorem notSet_ok {e : Expr} (h : notSet e = true) (env : Env) (x : Value) : foldedSetIterable e env x = pure x := by
  cases e <;> first | rfl | cases h
def baseOk : Expr → Bool
  | .Call _ args kws _ => !args.isEmpty || !kws.isEmpty
  | _ => true
theorem baseOk_ok {o : Expr} (h : baseOk o = true) (attr : Str) (env : Env) (w : Sem Value) : attributeBase o attr env w = w := by
  cases o with
  | Call f args kws p =>
    cases args with
    | nil => cases kws with
      | nil => cases h
      | cons k ks => cases f <;> rfl
    | cons a as => cases f <;> rfl
  | _ => rfl
theorem M2_ok {X : Cx} {o e f : Expr} {m : Str} {apos cpos : Pos} (h : baseOk o = true) (he : notStar e = true) (hf : notStar f = true) (hl : (apos.endLine == cpos.line) = true) : M2 X o m apos e f cpos where
  base := baseOk_ok h _ _ _
  few := by
    rw [star_cons he, star_cons hf]
    rfl
  line := hl
  trees := by
    rw [star_cons he, star_cons hf]
    rfl
/-! ### operators -/
def bopOf : Operator → Option BOp
  | .Add => some .add | .Sub => some .sub | .Mult => some .mul | .FloorDiv => some .fdiv | .Mod => some .mod | .Pow => some .pow
  | _ => none
def copOf : CmpOp → Option COp
  | .Eq => some .eq | .NotEq => some .ne | .Lt => some .lt | .LtE => some .le | .Gt => some .gt | .GtE => some .ge | .Is => some .isN | .IsNot => some .notN | .In => some .inn | .NotIn => some .out
section
variable {X : Cx} {H0 : Ent} {W : WX}
theorem de_bop {op : Operator} {o : BOp} {a b : Expr} {fa fb : Rho → Out D} {pos : Pos} (h : bopOf op = some o) (ha : DE X H0 W .b a fa) (hb : DE X H0 W .b b fb) : DE X H0 W .v (.BinOp a op b pos) fun ρ => (fa ρ).bind fun x => (fb ρ).bind fun y => o.f x y := by
  cases op <;> first
    | (cases h; first | exact de_add ha hb | exact de_sub ha hb | exact de_mul ha hb | exact de_fdiv ha hb | exact de_mod ha hb | exact de_pow ha hb)
    | cases h
theorem cop_ok (hu : X.A.units + 64 < cLine) {op : CmpOp} {o : COp} (h : copOf op = some o) : ∃ r, OpR X (compareOp op) r ∧ ∀ {W : WX}, Row2 X W .v r o.f := by
  cases op with
  | Eq => cases h; exact ⟨_, op_eqP hu, row_eq⟩
  | NotEq => cases h; exact ⟨_, op_neP hu, row_ne⟩
  | Lt => cases h; exact ⟨_, OpR.or op_lt (op_ltP hu), row_lt⟩
  | LtE => cases h; exact ⟨_, OpR.or op_le (op_leP hu), row_le⟩
  | Gt => cases h; exact ⟨_, OpR.or op_gt (op_gtP hu), row_gt⟩
  | GtE => cases h; exact ⟨_, OpR.or op_ge (op_geP hu), row_ge⟩
  | Is => cases h; exact ⟨_, op_isN, row_isN⟩
  | IsNot => cases h; exact ⟨_, op_notN, row_notN⟩
  | In => cases h; exact ⟨_, op_in3 hu, row_in⟩
  | NotIn => cases h; exact ⟨_, op_notIn3 hu, row_notIn⟩
/-! ### built-ins -/
def biOf (x : Str) : Option Bi :=
  if x = "len" then some .len else if x = "abs" then some .abs else if x = "int" then some .int else if x = "str" then some .str else if x = "sum" then some .sum else if x = "all" then some .all else if x = "any" then some .any else
  if x = "max" then some .max else if x = "min" then some .min else if x = "tuple" then some .tuple else if x = "list" then some .list else if x = "dict" then some .dict else if x = "sorted" then some .sorted else none
def Bi.nm : Bi → Str
  | .len => "len" | .abs => "abs" | .int => "int" | .str => "str" | .sum => "sum" | .all => "all" | .any => "any" | .max => "max" | .min => "min" | .tuple => "tuple" | .list => "list" | .dict => "dict" | .sorted => "sorted"
theorem biOf_ok {x : Str} {b : Bi} (h : biOf x = some b) : x = b.nm := by
  unfold biOf at h
  by_cases e_len : x = "len"
  · rw [if_pos e_len] at h
    cases h
    exact e_len
  rw [if_neg e_len] at h
  by_cases e_abs : x = "abs"
  · rw [if_pos e_abs] at h
    cases h
    exact e_abs
  rw [if_neg e_abs] at h
  by_cases e_int : x = "int"
  · rw [if_pos e_int] at h
    cases h
    exact e_int
  rw [if_neg e_int] at h
  by_cases e_str : x = "str"
  · rw [if_pos e_str] at h
    cases h
    exact e_str
  rw [if_neg e_str] at h
  by_cases e_sum : x = "sum"
  · rw [if_pos e_sum] at h
    cases h
    exact e_sum
  rw [if_neg e_sum] at h
  by_cases e_all : x = "all"
  · rw [if_pos e_all] at h
    cases h
    exact e_all
  rw [if_neg e_all] at h
  by_cases e_any : x = "any"
  · rw [if_pos e_any] at h
    cases h
    exact e_any
  rw [if_neg e_any] at h
  by_cases e_max : x = "max"
  · rw [if_pos e_max] at h
    cases h
    exact e_max
  rw [if_neg e_max] at h
  by_cases e_min : x = "min"
  · rw [if_pos e_min] at h
    cases h
    exact e_min
  rw [if_neg e_min] at h
  by_cases e_tuple : x = "tuple"
  · rw [if_pos e_tuple] at h
    cases h
    exact e_tuple
  rw [if_neg e_tuple] at h
  by_cases e_list : x = "list"
  · rw [if_pos e_list] at h
    cases h
    exact e_list
  rw [if_neg e_list] at h
  by_cases e_dict : x = "dict"
  · rw [if_pos e_dict] at h
    cases h
    exact e_dict
  rw [if_neg e_dict] at h
  by_cases e_sorted : x = "sorted"
  · rw [if_pos e_sorted] at h
    cases h
    exact e_sorted
  rw [if_neg e_sorted] at h
  cases h
def Bi.fr : Bi → Bool
  | .list => true | .dict => true | .sorted => true
  | _ => false
def frMd : Bool → Md
  | true => .f
  | false => .v
theorem RowL.or2 {m : Md} {r r' : List V → Hp → VK → Prop} {f : D → Out D} {g : D → D → Out D} (h1 : RowL X W m r (Mp.one f)) (h2 : RowL X W m r' (Mp.two g)) : RowL X W m (fun xs H Q => r xs H Q ∨ r' xs H Q) (Mp.or2 f g) := fun σ U H vs ds Q hf rs q => by
  match ds, rs, q with
  | [d], rs, q => exact .inl (h1 σ U H vs [d] Q hf rs q)
  | [d, e], rs, q => exact .inr (h2 σ U H vs [d, e] Q hf rs q)
  | [], rs, q => exact q.elim
  | _ :: _ :: _ :: _, rs, q => exact q.elim
def biVal (b : Bi) (f : Value) : Prop := bootBuiltins b.nm = some f
theorem bi_ok (hc : X.calm = true) (hu : X.A.units + 64 < cLine) (b : Bi) : (∃ id r, bootBuiltins b.nm = some (.builtin id) ∧ CallR X (.builtin id) r ∧ RowL X W (frMd b.fr) r b.f) ∨ ∃ T r, bootBuiltins b.nm = some (.type T) ∧ CallR X (.type T) r ∧ RowL X W (frMd b.fr) r b.f := by
  cases b with
  | len => exact .inl ⟨"len", _, rfl, call_len.or call_lenRd, row_len⟩
  | abs => exact .inl ⟨"abs", _, rfl, call_abs, row_abs⟩
  | int => exact .inr ⟨"int", _, rfl, call_int1.or call_int_str, row_int1⟩
  | str => exact .inr ⟨"str", _, rfl, call_str_int, row_str⟩
  | sum => exact .inl ⟨"sum", _, rfl, cr_sum hc, row_sum⟩
  | all => exact .inl ⟨"all", _, rfl, cr_all hc, row_all⟩
  | any => exact .inl ⟨"any", _, rfl, cr_any hc, row_any⟩
  | max => exact .inl ⟨"max", _, rfl, (cr_max hc).or (call_max2 hc), row_max.or2 row_max2⟩
  | min => exact .inl ⟨"min", _, rfl, (cr_min hc).or (call_min2 hc), row_min.or2 row_min2⟩
  | tuple => exact .inr ⟨"tuple", _, rfl, call_tuple_of, row_tuple⟩
  | list => exact .inr ⟨"list", _, rfl, call_list_of.or (call_listD hc), row_list⟩
  | dict => exact .inr ⟨"dict", _, rfl, (call_dictP hc).or call_dictD, row_dict⟩
  | sorted => exact .inl ⟨"sorted", _, rfl, (cr_sortData hu).or (call_sortedD hc), row_sorted⟩
theorem bi_nm (b : Bi) : b.nm ∈ biNames ∧ b.nm ≠ "__name__" ∧ (b.nm == ("__debug__" : Str)) = false := by
  cases b <;> decide +kernel
theorem de_bi {b : Bi} {p pos : Pos} {e : Expr} {es : List Expr} {f : Rho → Out (List D)} (hc : X.calm = true) (hu : X.A.units + 64 < cLine) (hg : Gl X b.nm) (hm : X.mg b.nm = none) (hs : (e :: es).all notStar = true) (ha : DA X H0 W true (e :: es) f) :
    DE X H0 W (frMd b.fr) (.Call (.Name b.nm p) (e :: es) [] pos) fun ρ => (f ρ).bind b.f := by
  obtain ⟨h1, h2, h3⟩ := bi_nm b
  simp only [List.all_cons, Bool.and_eq_true] at hs
  rcases bi_ok (W := W) hc hu b with ⟨id, r, e1, e2, e3⟩ | ⟨T, r, e1, e2, e3⟩
  · exact de_callB e2 e3 hg hm e1 h2 h3 (star_cons hs.1 _ _) (star_pl hs.2 _ _) ha
  · exact de_callTy e2 e3 hg hm e1 h2 h3 (star_cons hs.1 _ _) (star_pl hs.2 _ _) ha
end
/-! ### blocks -/
def ownOf (N : List Str) : List (Str × NameKind) → List (Str × Nat)
  | [] => []
  | (x, k) :: r => match k with
    | .local => (match ixOf x N with
      | some i => (x, i) :: ownOf N r
      | none => ownOf N r)
    | .cell => (match ixOf x N with
      | some i => (x, i) :: ownOf N r
      | none => ownOf N r)
    | _ => ownOf N r
def isFree : Option NameKind → Bool
  | some .cell => true
  | some .free => true
  | _ => false
def blkB (N : List Str) (sc scope : Scope) (own : List (Str × Nat)) : Bool :=
  (scope.kind == .function) && (scope.names.all fun y => scope.names.lookup y.1 == some y.2) && (own.all fun p => N[p.2]? == some p.1) &&
  (scope.names.all fun y => match y.2 with
    | .free => isFree (sc.names.lookup y.1)
    | .local => (own.map (·.1)).contains y.1 || !N.contains y.1
    | .cell => (own.map (·.1)).contains y.1 || !N.contains y.1
    | _ => true)
theorem blkB_ok {N : List Str} {sc scope : Scope} {own : List (Str × Nat)} (h : blkB N sc scope own = true) : BlkOk N sc scope own := by
  unfold blkB at h
  simp only [Bool.and_eq_true, List.all_eq_true, beq_iff_eq] at h
  obtain ⟨⟨⟨h1, h2⟩, h3⟩, h4⟩ := h
  refine ⟨h1, fun y hy => h2 y hy, fun p hp => h3 p hp, fun y hy e => ?_, fun y hy e => ?_⟩
  · have := h4 y hy
    rw [e] at this
    simp only [isFree] at this
    split at this
    · rename_i q; exact .inl q
    · rename_i q; exact .inr q
    · cases this
  · have := h4 y hy
    rcases e with e | e
    · rw [e] at this
      simp only [Bool.or_eq_true, List.contains_iff_mem, Bool.not_eq_true', ← Bool.not_eq_true] at this
      exact this
    · rw [e] at this
      simp only [Bool.or_eq_true, List.contains_iff_mem, Bool.not_eq_true', ← Bool.not_eq_true] at this
      exact this
end Mp
namespace Mp
open PySem PySem.Spec PyProof.Rows L2
/-! ## the translation of expressions -/
def isFr : C → Bool
  | .lst _ => true
  | .dct0 => true
  | .lc .. => true
  | .dc .. => true
  | .bi b _ => b.fr
  | _ => false
def cK : Const → Option C
  | .int i => some (.lit (.int i))
  | .bool b => some (.lit (.bool b))
  | .str x => some (.lit (.str x))
  | .none => some (.lit .none)
  | _ => none
/-- a local name's slot -/
def slotOf (Γ : Ctx) (x : Str) : Option Nat := if visB Γ.sc x = true ∧ okNm x = true then ixOf x Γ.N else none
def cN (Γ : Ctx) (x : Str) : Option C := match slotOf Γ x with
  | some i => some (.var i)
  | none => if glB Γ.sc x = true ∧ okNm x = true then (Γ.con.lookup x).map .lit else none
def isTupE : Expr → Bool
  | .Tuple .. => true
  | _ => false
mutual
def cTg : Nat → Ctx → Expr → Option Tg
  | 0, _, _ => none
  | n + 1, Γ, e => match e with
    | .Name x _ => if locB Γ.sc x = true ∧ (Γ.fn x = true ∨ Γ.sc.names.lookup x = some .local) then (ixOf x Γ.N).map .nm else none
    | .Tuple es _ _ => if es.all notStar = true then (cTgs n Γ es).map .tup else none
    | _ => none
def cTgs : Nat → Ctx → List Expr → Option (List Tg)
  | 0, _, _ => none
  | _ + 1, _, [] => some []
  | n + 1, Γ, e :: es => (cTg n Γ e).bind fun t => (cTgs n Γ es).map fun ts => t :: ts
end
mutual
/-- as it is -/
def cE : Nat → Ctx → Expr → Option C
  | 0, _, _ => none
  | n + 1, Γ, e => match e with
    | .Constant k _ _ => cK k
    | .Name x _ => cN Γ x
    | .BinOp a op b _ => (bopOf op).bind fun o => (cB n Γ a).bind fun a => (cB n Γ b).map fun b => .bin o a b
    | .UnaryOp op a _ => match op with
      | .USub => (cB n Γ a).map .neg
      | .Not => (cB n Γ a).map .not
      | _ => none
    | .BoolOp op es _ => if 2 ≤ es.length then cBool n Γ op es else none
    | .IfExp t a b _ => (cT n Γ t).bind fun t => (cE n Γ a).bind fun a => (cE n Γ b).map fun b => .ite t a b
    | .Compare a ops bs _ => match ops, bs with
      | [op], [b] => if behindInMarks op b = false then (copOf op).bind fun o => (cB n Γ a).bind fun a => (cB n Γ b).map fun b => .cmp o a b else none
      | [op, op'], [b, c] => if lastMarks [op, op'] [b, c] = false then (copOf op).bind fun o => (copOf op').bind fun o' => (cB n Γ a).bind fun a => (cB n Γ b).bind fun b => (cB n Γ c).map fun c => .chain o o' a b c else none
      | _, _ => none
    | .Tuple es _ _ => (cA n Γ false es).map .tup
    | .List es _ => (cA n Γ false es).map .lst
    | .Dict ks vs _ => match ks, vs with
      | [], [] => some .dct0
      | _, _ => none
    | .Subscript a i _ => match i with
      | .Slice lo hi none _ => (cB n Γ a).bind fun a => (cO n Γ lo).bind fun lo => (cO n Γ hi).map fun hi => .slice a lo hi
      | i => if plainIx i = true then (cB n Γ a).bind fun a => (cB n Γ i).map fun i => .idx a i else none
    | .ListComp elt gs scope _ => match gs with
      | [⟨tg, iter, ifs, as⟩] => if as = 0 ∧ blkB Γ.N Γ.sc scope (ownOf Γ.N scope.names) = true ∧ notSet iter = true then
          (cI n Γ true tg iter).bind fun it => (cTg n (Γ.blk scope) tg).bind fun t => (cW n (Γ.blk scope) ifs).bind fun w => (cE n (Γ.blk scope) elt).bind fun e =>
            if t.ixs.all (fun j => ((ownOf Γ.N scope.names).map (·.2)).contains j) = true then some (.lc t it w e ((ownOf Γ.N scope.names).map (·.2))) else none else none
      | _ => none
    | .DictComp kx vx gs scope _ => match gs with
      | [⟨tg, iter, ifs, as⟩] => if as = 0 ∧ blkB Γ.N Γ.sc scope (ownOf Γ.N scope.names) = true ∧ notSet iter = true then
          (cI n Γ true tg iter).bind fun it => (cTg n (Γ.blk scope) tg).bind fun t => (cW n (Γ.blk scope) ifs).bind fun w => (cE n (Γ.blk scope) kx).bind fun k => (cE n (Γ.blk scope) vx).bind fun v =>
            if t.ixs.all (fun j => ((ownOf Γ.N scope.names).map (·.2)).contains j) = true then some (.dc t it w k v ((ownOf Γ.N scope.names).map (·.2))) else none else none
      | _ => none
    | .Call f es kws pos => match kws with
      | [] => match f with
        | .Name x _ => if glB Γ.sc x = true ∧ okNm x = true ∧ es.all notStar = true then cCall n Γ x es else none
        | .Attribute o name apos => match es with
          | [k, d] => if name = "get" ∧ baseOk o = true ∧ notStar k = true ∧ notStar d = true ∧ (apos.endLine == pos.line) = true then
              (cB n Γ o).bind fun o => (cB n Γ k).bind fun k => (cE n Γ d).map fun d => .get2 o k d else none
          | _ => none
        | _ => none
      | _ => none
    | _ => none
/-- read, perhaps owned -/
def cB : Nat → Ctx → Expr → Option C
  | 0, _, _ => none
  | n + 1, Γ, e => match e with
    | .Name x _ => match slotOf Γ x with
      | some i => some (.varB i)
      | none => cN Γ x
    | e => cE n Γ e
def cBool : Nat → Ctx → BoolOp → List Expr → Option C
  | 0, _, _, _ => none
  | n + 1, Γ, op, es => match es with
    | [] => none
    | [e] => cE n Γ e
    | e :: e2 :: es => (cE n Γ e).bind fun a => (cBool n Γ op (e2 :: es)).map fun b => match op with
      | .And => .and a b
      | .Or => .or a b
def cA : Nat → Ctx → Bool → List Expr → Option Cs
  | 0, _, _, _ => none
  | n + 1, Γ, b, es => match es with
    | [] => some .nil
    | e :: es => if notStar e = true then (match b with
      | true => cB n Γ e
      | false => cE n Γ e).bind fun c => (cA n Γ b es).map fun cs => .cons c cs else none
def cO : Nat → Ctx → Option Expr → Option Co
  | 0, _, _ => none
  | n + 1, Γ, e => match e with
    | none => some .no
    | some e => (cB n Γ e).map .yes
def cW : Nat → Ctx → List Expr → Option Ct
  | 0, _, _ => none
  | n + 1, Γ, es => match es with
    | [] => some .no
    | [e] => (cT n Γ e).map .yes
    | _ => none
def cI : Nat → Ctx → Bool → Expr → Expr → Option Ci
  | 0, _, _, _, _ => none
  | n + 1, Γ, b, tg, e => match e with
    | .Call (.Name x p) es [] pos => if glB Γ.sc x = true ∧ es.all notStar = true ∧ x = "range" ∧ es.length = 1 then (cA n Γ b es).map .rg1
      else if glB Γ.sc x = true ∧ es.all notStar = true ∧ x = "range" ∧ es.length = 2 then (cA n Γ b es).map .rg2
      else if glB Γ.sc x = true ∧ es.all notStar = true ∧ x = "zip" ∧ es.length = 2 ∧ isTupE tg = true then (cA n Γ b es).map .zip
      else if glB Γ.sc x = true ∧ es.all notStar = true ∧ x = "enumerate" ∧ es.length = 1 ∧ isTupE tg = true then (cA n Γ b es).map .enum
      else (cE n Γ (.Call (.Name x p) es [] pos)).map .pl
    | e => (match b with
      | true => cB n Γ e
      | false => cE n Γ e).map .pl
def cCall : Nat → Ctx → Str → List Expr → Option C
  | 0, _, _, _ => none
  | n + 1, Γ, x, es => match Γ.fns.lookup x with
    | some (i, b) => (cA n Γ b es).bind fun cs => if es.isEmpty = false then some (match b with
      | true => .callB i cs
      | false => .call i cs) else none
    | none => match biOf x with
      | some b => (cA n Γ true es).bind fun cs => if es.isEmpty = false then some (.bi b cs) else none
      | none => if x = "isinstance" then (match es with
        | [e, .Name c _] => if glB Γ.sc c = true ∧ okNm c = true then
            (if c = "int" then (cB n Γ e).map fun a => .isi a "int" else if c = "bool" then (cB n Γ e).map fun a => .isi a "bool" else if c = "str" then (cB n Γ e).map fun a => .isi a "str"
              else if c = "list" then (cB n Γ e).map fun a => .isi a "list" else if c = "tuple" then (cB n Γ e).map fun a => .isi a "tuple" else if c = "dict" then (cB n Γ e).map fun a => .isi a "dict" else none) else none
        | _ => none) else none
/-- a test -/
def cT : Nat → Ctx → Expr → Option T
  | 0, _, _ => none
  | n + 1, Γ, e => match e with
    | .UnaryOp .Not a _ => (cT n Γ a).map .not
    | .BoolOp op es _ => cTBool n Γ op es
    | .IfExp t a b _ => (cT n Γ t).bind fun t => (cT n Γ a).bind fun a => (cT n Γ b).map fun b => .ite t a b
    | .Compare a ops bs _ => match ops, bs with
      | [op], [b] => if behindInMarks op b = false then (copOf op).bind fun o => (cB n Γ a).bind fun a => (cB n Γ b).map fun b => .cmp o a b else none
      | [op, op'], [b, c] => if lastMarks [op, op'] [b, c] = false then (copOf op).bind fun o => (copOf op').bind fun o' => (cB n Γ a).bind fun a => (cB n Γ b).bind fun b => (cB n Γ c).map fun c => .chain o o' a b c else none
      | _, _ => none
    | e => if plainT e = true then (cB n Γ e).map .tr else none
def cTBool : Nat → Ctx → BoolOp → List Expr → Option T
  | 0, _, _, _ => none
  | n + 1, Γ, op, es => match es with
    | [] => none
    | [e] => cT n Γ e
    | e :: e2 :: es => (cT n Γ e).bind fun a => (cTBool n Γ op (e2 :: es)).map fun b => match op with
      | .And => .and a b
      | .Or => .or a b
end
/-! ### it is right -/
section
variable {k : Nat} {G : Nat → List D → Out D}
theorem slot_ok {X : Cx} {Γ : Ctx} {W : WX} {x : Str} {i : Nat} (g : GE X Γ W k G) (h : slotOf Γ x = some i) : X.N[i]? = some x ∧ Vis X.env.scope x ∧ (x == ("__debug__" : Str)) = false ∧ (x == ("__classdict__" : Str)) = false := by
  unfold slotOf at h
  split at h
  · rename_i q
    obtain ⟨h1, h2, _⟩ := okNm_ok q.2
    exact ⟨by rw [g.N]; exact ixOf_ok h, by rw [g.sc]; exact visB_ok q.1, h1, h2⟩
  · cases h
theorem gl_ok {X : Cx} {Γ : Ctx} {W : WX} {x : Str} (g : GE X Γ W k G) (h : glB Γ.sc x = true) : Gl X x := by
  unfold Gl Env.kindOf
  rw [g.sc]
  exact glB_ok h
theorem cN_ok {X : Cx} {H0 : Ent} {Γ : Ctx} {W : WX} {x : Str} {p : Pos} {c : C} (g : GE X Γ W k G) (h : cN Γ x = some c) : DE X H0 W .v (.Name x p) (ev G c) := by
  unfold cN at h
  split at h
  · rename_i i e
    cases h
    obtain ⟨h1, h2, h3, h4⟩ := slot_ok g e
    exact de_var h1 h2 h3 h4
  · split at h
    · rename_i q
      obtain ⟨d, h1, rfl⟩ := Option.map_eq_some_iff.mp h
      obtain ⟨u, v, m, r, w⟩ := g.con x d h1
      exact de_glob (gl_ok g q.1) m r w (okNm_ok q.2).1
    · cases h
theorem cK_ok {X : Cx} {H0 : Ent} {W : WX} {kk : Const} {j : Nat} {p : Pos} {c : C} (h : cK kk = some c) : DE X H0 W .v (.Constant kk j p) (ev G c) := by
  cases kk <;> first
    | (cases h; first | exact de_int | exact de_bl | exact de_str | exact de_non)
    | cases h
theorem cTg_ok : ∀ (n : Nat), (∀ (Γ : Ctx) (e : Expr) (t : Tg), cTg n Γ e = some t → ∀ {X : Cx} {H0 : Ent} {W : WX}, GE X Γ W k G → DG X H0 e t) ∧ ∀ (Γ : Ctx) (es : List Expr) (ts : List Tg), cTgs n Γ es = some ts → ∀ {X : Cx} {H0 : Ent} {W : WX}, GE X Γ W k G → DGs X H0 es ts ∧ es.length = ts.length
  | 0 => ⟨fun _ _ _ h => (nomatch h), fun _ _ _ h => (nomatch h)⟩
  | n + 1 => by
    obtain ⟨ih1, ih2⟩ := cTg_ok n
    constructor
    · intro Γ e t h X H0 W g
      unfold cTg at h
      split at h
      · rename_i x p
        split at h
        · rename_i q
          obtain ⟨i, h1, rfl⟩ := Option.map_eq_some_iff.mp h
          refine dg_nm (by rw [g.N]; exact g.nd) (by rw [g.N]; exact ixOf_ok h1) (by rw [g.sc]; exact locB_ok q.1) ?_
          rcases q.2 with q2 | q2
          · exact .inl (g.fn x q2)
          · exact .inr (by rw [g.sc]; exact q2)
        · cases h
      · rename_i es kk p
        split at h
        · rename_i hs
          obtain ⟨ts, h1, rfl⟩ := Option.map_eq_some_iff.mp h
          obtain ⟨a, b⟩ := ih2 Γ es ts h1 g
          have key : ∀ (es : List Expr), es.all notStar = true → (assignEach es X.env).length = es.length ∧ (assignEach es X.env).findIdx? (·.1) = none := by
            intro es
            induction es with
            | nil => exact fun _ => ⟨rfl, rfl⟩
            | cons e es ih =>
              intro hs
              simp only [List.all_cons, Bool.and_eq_true] at hs
              have e1 : assignEach (e :: es) X.env = (false, assign e X.env) :: assignEach es X.env := by
                cases e <;> first | rfl | (simp [notStar] at hs)
              rw [e1]
              refine ⟨by rw [List.length_cons, List.length_cons, (ih hs.2).1], ?_⟩
              rw [List.findIdx?_cons, (ih hs.2).2]
              rfl
          exact dg_tup g.calm a (by rw [(key es hs).1, b]) (key es hs).2
        · cases h
      · cases h
    · intro Γ es ts h X H0 W g
      cases es with
      | nil =>
        cases h
        exact ⟨dgs_nil, rfl⟩
      | cons e es =>
        unfold cTgs at h
        simp only [Option.bind_eq_some_iff] at h
        obtain ⟨t, h1, h⟩ := h
        obtain ⟨ts', h2, rfl⟩ := Option.map_eq_some_iff.mp h
        obtain ⟨a, b⟩ := ih2 Γ es ts' h2 g
        refine ⟨dgs_cons (ih1 Γ e t h1 g) a ?_, by rw [List.length_cons, List.length_cons, b]⟩
        cases e with
        | Starred v p =>
          cases n <;> simp [cTg] at h1
        | _ => rfl
end
end Mp
namespace Mp
open PySem PySem.Spec PyProof.Rows L2
section
variable {k : Nat} {G : Nat → List D → Out D}
theorem ob {α β : Type} {o : Option α} {f : α → Option β} {b : β} (h : o.bind f = some b) : ∃ a, o = some a ∧ f a = some b := Option.bind_eq_some_iff.mp h
theorem om {α β : Type} {o : Option α} {f : α → β} {b : β} (h : o.map f = some b) : ∃ a, o = some a ∧ f a = b := Option.map_eq_some_iff.mp h
/-- all of it, at one depth -/
structure Okn (k : Nat) (G : Nat → List D → Out D) (n : Nat) : Prop where
  e : ∀ (Γ : Ctx) (e : Expr) (c : C), cE n Γ e = some c → ∀ {X : Cx} {H0 : Ent} {W : WX}, GE X Γ W k G → DE X H0 W .v e (ev G c) ∧ (isFr c = true → DE X H0 W .f e (ev G c))
  b : ∀ (Γ : Ctx) (e : Expr) (c : C), cB n Γ e = some c → ∀ {X : Cx} {H0 : Ent} {W : WX}, GE X Γ W k G → DE X H0 W .b e (ev G c)
  bo : ∀ (Γ : Ctx) (op : BoolOp) (es : List Expr) (c : C), cBool n Γ op es = some c → ∀ {X : Cx} {H0 : Ent} {W : WX}, GE X Γ W k G → ∀ pos, DE X H0 W .v (.BoolOp op es pos) (ev G c)
  a : ∀ (Γ : Ctx) (b : Bool) (es : List Expr) (cs : Cs), cA n Γ b es = some cs → ∀ {X : Cx} {H0 : Ent} {W : WX}, GE X Γ W k G → DA X H0 W b es (evs G cs)
  o : ∀ (Γ : Ctx) (e : Option Expr) (c : Co), cO n Γ e = some c → ∀ {X : Cx} {H0 : Ent} {W : WX}, GE X Γ W k G → DO X H0 W e (evO G c)
  w : ∀ (Γ : Ctx) (es : List Expr) (c : Ct), cW n Γ es = some c → ∀ {X : Cx} {H0 : Ent} {W : WX}, GE X Γ W k G → PTsD X H0 W es (evW G c)
  i : ∀ (Γ : Ctx) (b : Bool) (tg e : Expr) (c : Ci), cI n Γ b tg e = some c → ∀ {X : Cx} {H0 : Ent} {W : WX}, GE X Γ W k G → DI X H0 W b tg e (evI G c)
  cl : ∀ (Γ : Ctx) (x : Str) (es : List Expr) (c : C), cCall n Γ x es = some c → ∀ {X : Cx} {H0 : Ent} {W : WX}, GE X Γ W k G → glB Γ.sc x = true → okNm x = true → es.all notStar = true → ∀ p pos, DE X H0 W .v (.Call (.Name x p) es [] pos) (ev G c) ∧ (isFr c = true → DE X H0 W .f (.Call (.Name x p) es [] pos) (ev G c))
  t : ∀ (Γ : Ctx) (e : Expr) (c : T), cT n Γ e = some c → ∀ {X : Cx} {H0 : Ent} {W : WX}, GE X Γ W k G → DT X H0 W e (evT G c)
  tb : ∀ (Γ : Ctx) (op : BoolOp) (es : List Expr) (c : T), cTBool n Γ op es = some c → ∀ {X : Cx} {H0 : Ent} {W : WX}, GE X Γ W k G → ∀ pos, DW X H0 W (.BoolOp op es pos) (evT G c)
theorem okn0 : Okn k G 0 where
  e := fun _ _ _ h => (nomatch h)
  b := fun _ _ _ h => (nomatch h)
  bo := fun _ _ _ _ h => (nomatch h)
  a := fun _ _ _ _ h => (nomatch h)
  o := fun _ _ _ h => (nomatch h)
  w := fun _ _ _ h => (nomatch h)
  i := fun _ _ _ _ _ h => (nomatch h)
  cl := fun _ _ _ _ h => (nomatch h)
  t := fun _ _ _ h => (nomatch h)
  tb := fun _ _ _ _ h => (nomatch h)
section
variable {n : Nat} {X : Cx} {H0 : Ent} {W : WX} {Γ : Ctx}
theorem DE.vf {e : Expr} {f : Rho → Out D} {c : C} (h : DE X H0 W .v e f) (hc : isFr c = false) : DE X H0 W .v e f ∧ (isFr c = true → DE X H0 W .f e f) := ⟨h, fun z => by rw [hc] at z; cases z⟩
theorem DE.fv {e : Expr} {f : Rho → Out D} {P : Prop} (h : DE X H0 W .f e f) : DE X H0 W .v e f ∧ (P → DE X H0 W .f e f) := ⟨h.toV, fun _ => h⟩
theorem GE.hu (g : GE X Γ W k G) : X.A.units + 64 < cLine := g.room.units
theorem GE.free (g : GE X Γ W k G) {x : Str} (h : x ∈ biNames) : X.mg x = none := g.bi x h
theorem sl3 : SlR X (rSl3 X.K) := sl_tupA.or (sl_list.or sl_str)
/-- the arguments of a call: not none of them -/
theorem okn_cl (ih : Okn k G n) (Γ : Ctx) (x : Str) (es : List Expr) (c : C) (h : cCall (n + 1) Γ x es = some c) (g : GE X Γ W k G) (hgl : glB Γ.sc x = true) (hok : okNm x = true) (hst : es.all notStar = true) (p pos : Pos) :
    DE X H0 W .v (.Call (.Name x p) es [] pos) (ev G c) ∧ (isFr c = true → DE X H0 W .f (.Call (.Name x p) es [] pos) (ev G c)) := by
  obtain ⟨d1, d2, d3⟩ := okNm_ok hok
  have gl := gl_ok g hgl
  unfold cCall at h
  split at h
  · rename_i i b hf
    obtain ⟨cs, h1, h⟩ := ob h
    split at h
    case isFalse => cases h
    rename_i hne
    cases h
    have ha := ih.a Γ b es cs h1 (H0 := H0) g
    obtain ⟨m, f, fd, ps, F, ar, hm, hk, hb⟩ := g.fns x i b hf
    cases es with
    | nil => cases hne
    | cons e es =>
      simp only [List.all_cons, Bool.and_eq_true] at hst
      cases b with
      | true => exact DE.vf (de_callBr F ar g.room gl hm hk hb g.tk ha d1 (star_cons hst.1 _ _) (star_pl hst.2 _ _)) rfl
      | false => exact DE.vf (de_call F ar g.room gl hm hk hb g.tk ha d1 (star_cons hst.1 _ _) (star_pl hst.2 _ _)) rfl
  · split at h
    · rename_i b hb
      obtain ⟨cs, h1, h⟩ := ob h
      split at h
      case isFalse => cases h
      rename_i hne
      cases h
      have ha := ih.a Γ true es cs h1 (H0 := H0) g
      cases es with
      | nil => cases hne
      | cons e es =>
        obtain rfl := biOf_ok hb
        have q := de_bi (W := W) (p := p) (pos := pos) g.calm g.hu gl (g.free (bi_nm b).1) hst ha
        cases hfr : b.fr with
        | true =>
          rw [hfr] at q
          exact DE.fv q
        | false =>
          rw [hfr] at q
          exact DE.vf q hfr
    · split at h
      case isFalse => cases h
      rename_i hx
      subst hx
      split at h
      case h_2 => cases h
      rename_i e cc cp
      split at h
      case isFalse => cases h
      rename_i hc
      obtain ⟨c1, c2, c3⟩ := okNm_ok hc.2
      have glc := gl_ok g hc.1
      simp only [List.all_cons, Bool.and_eq_true] at hst
      have go : ∀ {T : String} {c : C}, (cB n Γ e).map (fun a => C.isi a T) = some c → cc ∈ biNames → bootBuiltins cc = some (.type T) → T ∈ isiC → DE X H0 W .v (.Call (.Name "isinstance" p) [e, .Name cc cp] [] pos) (ev G c) ∧ (isFr c = true → DE X H0 W .f (.Call (.Name "isinstance" p) [e, .Name cc cp] [] pos) (ev G c)) := by
        intro T c h hin hb hT
        obtain ⟨a, h1, rfl⟩ := om h
        exact DE.vf (de_isi gl (g.free (by decide +kernel)) glc (g.free hin) hb c3 c1 hT (ih.b Γ e a h1 g) (by rw [star_cons hst.1, star_cons (e := .Name cc cp) rfl]; rfl) (by rw [star_cons (e := .Name cc cp) rfl]; rfl)) rfl
      split at h
      · rename_i e1; subst e1
        exact go h (by decide +kernel) rfl (by decide)
      split at h
      · rename_i e1; subst e1
        exact go h (by decide +kernel) rfl (by decide)
      split at h
      · rename_i e1; subst e1
        exact go h (by decide +kernel) rfl (by decide)
      split at h
      · rename_i e1; subst e1
        exact go h (by decide +kernel) rfl (by decide)
      split at h
      · rename_i e1; subst e1
        exact go h (by decide +kernel) rfl (by decide)
      split at h
      · rename_i e1; subst e1
        exact go h (by decide +kernel) rfl (by decide)
      cases h
theorem okn_b (ih : Okn k G n) (Γ : Ctx) (e : Expr) (c : C) (h : cB (n + 1) Γ e = some c) (g : GE X Γ W k G) : DE X H0 W .b e (ev G c) := by
  unfold cB at h
  split at h
  · split at h
    · rename_i i hs
      cases h
      obtain ⟨h1, h2, h3, h4⟩ := slot_ok g hs
      exact de_varB h1 h2 h3 h4
    · exact (cN_ok g h).toB
  · exact (ih.e Γ _ c h g).1.toB
theorem okn_bo (ih : Okn k G n) (Γ : Ctx) (op : BoolOp) (es : List Expr) (c : C) (h : cBool (n + 1) Γ op es = some c) (g : GE X Γ W k G) (pos : Pos) : DE X H0 W .v (.BoolOp op es pos) (ev G c) := by
  unfold cBool at h
  split at h
  · cases h
  · rename_i e
    exact de_one (ih.e Γ e c h g).1
  · rename_i e e2 es
    obtain ⟨a, h1, h⟩ := ob h
    obtain ⟨b, h2, rfl⟩ := om h
    cases op with
    | And => exact de_andV (ih.e Γ e a h1 g).1 (ih.bo Γ _ _ b h2 g pos)
    | Or => exact de_orV (ih.e Γ e a h1 g).1 (ih.bo Γ _ _ b h2 g pos)
theorem okn_a (ih : Okn k G n) (Γ : Ctx) (b : Bool) (es : List Expr) (cs : Cs) (h : cA (n + 1) Γ b es = some cs) (g : GE X Γ W k G) : DA X H0 W b es (evs G cs) := by
  unfold cA at h
  split at h
  · cases h
    exact da_nil
  · rename_i e es
    split at h
    case isFalse => cases h
    rename_i hn
    obtain ⟨c, h1, h⟩ := ob h
    obtain ⟨cs', h2, rfl⟩ := om h
    refine da_cons ?_ (ih.a Γ b es cs' h2 g) (star_cons hn _ _)
    cases b with
    | true => exact ih.b Γ e c h1 g
    | false => exact (ih.e Γ e c h1 g).1
theorem okn_o (ih : Okn k G n) (Γ : Ctx) (e : Option Expr) (c : Co) (h : cO (n + 1) Γ e = some c) (g : GE X Γ W k G) : DO X H0 W e (evO G c) := by
  unfold cO at h
  split at h
  · cases h
    exact do_none
  · obtain ⟨c', h1, rfl⟩ := om h
    exact do_some (ih.b Γ _ c' h1 g)
theorem okn_w (ih : Okn k G n) (Γ : Ctx) (es : List Expr) (c : Ct) (h : cW (n + 1) Γ es = some c) (g : GE X Γ W k G) : PTsD X H0 W es (evW G c) := by
  unfold cW at h
  split at h
  · cases h
    exact dts_nil
  · obtain ⟨c', h1, rfl⟩ := om h
    exact dts_one (ih.t Γ _ c' h1 g)
  · cases h
theorem okn_i (ih : Okn k G n) (Γ : Ctx) (b : Bool) (tg e : Expr) (c : Ci) (h : cI (n + 1) Γ b tg e = some c) (g : GE X Γ W k G) : DI X H0 W b tg e (evI G c) := by
  unfold cI at h
  split at h
  · rename_i x p es pos
    split at h
    · rename_i q
      obtain ⟨q1, q2, rfl, q4⟩ := q
      obtain ⟨cs, h1, rfl⟩ := om h
      have ha := ih.a Γ b es cs h1 (H0 := H0) g
      match es, q4, q2, ha with
      | [a], _, q2, ha =>
        simp only [List.all_cons, Bool.and_eq_true] at q2
        exact di_range1 (gl_ok g q1) (g.free (by decide +kernel)) ha (by rw [star_cons q2.1]; rfl)
    split at h
    · rename_i q
      obtain ⟨q1, q2, rfl, q4⟩ := q
      obtain ⟨cs, h1, rfl⟩ := om h
      have ha := ih.a Γ b es cs h1 (H0 := H0) g
      match es, q4, q2, ha with
      | [a, a2], _, q2, ha =>
        simp only [List.all_cons, Bool.and_eq_true] at q2
        exact di_range2 (gl_ok g q1) (g.free (by decide +kernel)) ha (by rw [star_cons q2.1, star_cons q2.2.1]; rfl) (by rw [star_cons q2.2.1]; rfl)
    split at h
    · rename_i q
      obtain ⟨q1, q2, rfl, q4, q5⟩ := q
      obtain ⟨cs, h1, rfl⟩ := om h
      have ha := ih.a Γ b es cs h1 (H0 := H0) g
      match es, q4, q2, ha with
      | [a, a2], _, q2, ha =>
        simp only [List.all_cons, Bool.and_eq_true] at q2
        cases tg with
        | Tuple elts kk tpos => exact di_zip (gl_ok g q1) (g.free (by decide +kernel)) ha (star_cons q2.1 _ _) (star_pl (by simp only [List.all_cons, Bool.and_eq_true]; exact q2.2) _ _)
        | _ => cases q5
    split at h
    · rename_i q
      obtain ⟨q1, q2, rfl, q4, q5⟩ := q
      obtain ⟨cs, h1, rfl⟩ := om h
      have ha := ih.a Γ b es cs h1 (H0 := H0) g
      match es, q4, q2, ha with
      | [a], _, q2, ha =>
        simp only [List.all_cons, Bool.and_eq_true] at q2
        cases tg with
        | Tuple elts kk tpos => exact di_enum (gl_ok g q1) (g.free (by decide +kernel)) ha (by rw [star_cons q2.1]; rfl)
        | _ => cases q5
    obtain ⟨c', h1, rfl⟩ := om h
    have he := (ih.e Γ _ c' h1 (H0 := H0) g).1
    cases b with
    | true => exact di_plain he.toB
    | false => exact di_plain he
  · obtain ⟨c', h1, rfl⟩ := om h
    cases b with
    | true => exact di_plain (ih.b Γ _ c' h1 g)
    | false => exact di_plain (ih.e Γ _ c' h1 g).1
theorem okn_tb (ih : Okn k G n) (Γ : Ctx) (op : BoolOp) (es : List Expr) (c : T) (h : cTBool (n + 1) Γ op es = some c) (g : GE X Γ W k G) (pos : Pos) : DW X H0 W (.BoolOp op es pos) (evT G c) := by
  unfold cTBool at h
  split at h
  · cases h
  · rename_i e
    cases op with
    | And => exact dw_and1 (ih.t Γ e c h g)
    | Or => exact dw_or1 (ih.t Γ e c h g)
  · rename_i e e2 es
    obtain ⟨a, h1, h⟩ := ob h
    obtain ⟨b, h2, rfl⟩ := om h
    cases op with
    | And => exact dw_and (ih.t Γ e a h1 g) (ih.tb Γ _ _ b h2 g pos)
    | Or => exact dw_or (ih.t Γ e a h1 g) (ih.tb Γ _ _ b h2 g pos)
theorem okn_cmp (ih : Okn k G n) (Γ : Ctx) {op : CmpOp} {o : COp} {a b : Expr} {a' b' : C} {pos : Pos} (h1 : behindInMarks op b = false) (h2 : copOf op = some o) (h3 : cB n Γ a = some a') (h4 : cB n Γ b = some b') (g : GE X Γ W k G) :
    DE X H0 W .v (.Compare a [op] [b] pos) (ev G (.cmp o a' b')) ∧ DT X H0 W (.Compare a [op] [b] pos) (evT G (.cmp o a' b')) := by
  obtain ⟨r, r1, r2⟩ := cop_ok g.hu h2
  exact ⟨de_cmp r1 h1 r2 (ih.b Γ a a' h3 g) (ih.b Γ b b' h4 g), dt_cmp r1 h1 r2 (ih.b Γ a a' h3 g) (ih.b Γ b b' h4 g)⟩
theorem okn_chain (ih : Okn k G n) (Γ : Ctx) {op op' : CmpOp} {o o' : COp} {a b c : Expr} {a' b' c' : C} {pos : Pos} (h1 : lastMarks [op, op'] [b, c] = false) (h2 : copOf op = some o) (h2' : copOf op' = some o') (h3 : cB n Γ a = some a') (h4 : cB n Γ b = some b') (h5 : cB n Γ c = some c') (g : GE X Γ W k G) :
    DE X H0 W .v (.Compare a [op, op'] [b, c] pos) (ev G (.chain o o' a' b' c')) ∧ DT X H0 W (.Compare a [op, op'] [b, c] pos) (evT G (.chain o o' a' b' c')) := by
  obtain ⟨r, r1, r2⟩ := cop_ok g.hu h2
  obtain ⟨r', r1', r2'⟩ := cop_ok g.hu h2'
  exact ⟨de_chain r1 r1' h1 r2 r2' (ih.b Γ a a' h3 g) (ih.b Γ b b' h4 g) (ih.b Γ c c' h5 g), dt_chain r1 r1' h1 r2 r2' (ih.b Γ a a' h3 g) (ih.b Γ b b' h4 g) (ih.b Γ c c' h5 g)⟩
theorem okn_t (ih : Okn k G n) (Γ : Ctx) (e : Expr) (c : T) (h : cT (n + 1) Γ e = some c) (g : GE X Γ W k G) : DT X H0 W e (evT G c) := by
  unfold cT at h
  split at h
  · obtain ⟨a, h1, rfl⟩ := om h
    exact dt_not (ih.t Γ _ a h1 g)
  · rename_i op es pos
    exact (ih.tb Γ op es c h g pos).pt
  · obtain ⟨t, h1, h⟩ := ob h
    obtain ⟨a, h2, h⟩ := ob h
    obtain ⟨b, h3, rfl⟩ := om h
    exact dt_ifExp (ih.t Γ _ t h1 g) (ih.t Γ _ a h2 g) (ih.t Γ _ b h3 g)
  · split at h
    · split at h
      case isFalse => cases h
      rename_i hm
      obtain ⟨o, h1, h⟩ := ob h
      obtain ⟨a, h2, h⟩ := ob h
      obtain ⟨b, h3, rfl⟩ := om h
      exact (okn_cmp ih Γ hm h1 h2 h3 g).2
    · split at h
      case isFalse => cases h
      rename_i hm
      obtain ⟨o, h1, h⟩ := ob h
      obtain ⟨o', h1', h⟩ := ob h
      obtain ⟨a, h2, h⟩ := ob h
      obtain ⟨b, h3, h⟩ := ob h
      obtain ⟨c, h4, rfl⟩ := om h
      exact (okn_chain ih Γ hm h1 h1' h2 h3 h4 g).2
    · cases h
  · split at h
    case isFalse => cases h
    rename_i hp
    obtain ⟨a, h1, rfl⟩ := om h
    exact dt_truth (ih.b Γ _ a h1 g) (plainT_ok hp _)
theorem okn_e (ih : Okn k G n) (Γ : Ctx) (e : Expr) (c : C) (h : cE (n + 1) Γ e = some c) (g : GE X Γ W k G) : DE X H0 W .v e (ev G c) ∧ (isFr c = true → DE X H0 W .f e (ev G c)) := by
  unfold cE at h
  split at h
  · have hf : isFr c = false := by
      unfold cK at h
      split at h <;> first | (cases h; rfl) | cases h
    exact DE.vf (cK_ok h) hf
  · have hf : isFr c = false := by
      unfold cN at h
      split at h
      · cases h; rfl
      · split at h
        · obtain ⟨d, _, rfl⟩ := om h; rfl
        · cases h
    exact DE.vf (cN_ok g h) hf
  · obtain ⟨o, h1, h⟩ := ob h
    obtain ⟨a, h2, h⟩ := ob h
    obtain ⟨b, h3, rfl⟩ := om h
    exact DE.vf (de_bop h1 (ih.b Γ _ a h2 g) (ih.b Γ _ b h3 g)) rfl
  · split at h
    · obtain ⟨a, h1, rfl⟩ := om h
      exact DE.vf (de_neg (ih.b Γ _ a h1 g)) rfl
    · obtain ⟨a, h1, rfl⟩ := om h
      exact DE.vf (de_notV (ih.b Γ _ a h1 g)) rfl
    · cases h
  · rename_i op es pos
    split at h
    case isFalse => cases h
    rename_i hlen
    have hf : isFr c = false := by
      cases n with
      | zero => cases h
      | succ n =>
        unfold cBool at h
        split at h
        · cases h
        · simp at hlen
        · obtain ⟨a, h1, h⟩ := ob h
          obtain ⟨b, h2, rfl⟩ := om h
          cases op <;> rfl
    exact DE.vf (ih.bo Γ op es c h g pos) hf
  · obtain ⟨t, h1, h⟩ := ob h
    obtain ⟨a, h2, h⟩ := ob h
    obtain ⟨b, h3, rfl⟩ := om h
    exact DE.vf (de_ifExp (ih.t Γ _ t h1 g) (ih.e Γ _ a h2 g).1 (ih.e Γ _ b h3 g).1) rfl
  · split at h
    · split at h
      case isFalse => cases h
      rename_i hm
      obtain ⟨o, h1, h⟩ := ob h
      obtain ⟨a, h2, h⟩ := ob h
      obtain ⟨b, h3, rfl⟩ := om h
      exact DE.vf (okn_cmp ih Γ hm h1 h2 h3 g).1 rfl
    · split at h
      case isFalse => cases h
      rename_i hm
      obtain ⟨o, h1, h⟩ := ob h
      obtain ⟨o', h1', h⟩ := ob h
      obtain ⟨a, h2, h⟩ := ob h
      obtain ⟨b, h3, h⟩ := ob h
      obtain ⟨c, h4, rfl⟩ := om h
      exact DE.vf (okn_chain ih Γ hm h1 h1' h2 h3 h4 g).1 rfl
    · cases h
  · obtain ⟨cs, h1, rfl⟩ := om h
    exact DE.vf (de_tup (ih.a Γ false _ cs h1 g)) rfl
  · obtain ⟨cs, h1, rfl⟩ := om h
    exact DE.fv (de_lst (ih.a Γ false _ cs h1 g))
  · split at h
    · cases h
      exact DE.fv de_dct0
    · cases h
  · split at h
    · obtain ⟨a, h1, h⟩ := ob h
      obtain ⟨lo, h2, h⟩ := ob h
      obtain ⟨hi, h3, rfl⟩ := om h
      exact DE.vf (de_slice sl3 (ih.b Γ _ a h1 g) (ih.o Γ _ lo h2 g) (ih.o Γ _ hi h3 g)) rfl
    · split at h
      case isFalse => cases h
      rename_i hp
      obtain ⟨a, h1, h⟩ := ob h
      obtain ⟨b, h2, rfl⟩ := om h
      exact DE.vf (de_idx g.hu (plainIx_ok hp) (ih.b Γ _ a h1 g) (ih.b Γ _ b h2 g)) rfl
  · split at h
    case h_2 => cases h
    rename_i tg iter ifs as
    split at h
    case isFalse => cases h
    rename_i q
    obtain ⟨rfl, q1, q2⟩ := q
    obtain ⟨it, h1, h⟩ := ob h
    obtain ⟨t, h2, h⟩ := ob h
    obtain ⟨w, h3, h⟩ := ob h
    obtain ⟨ce, h4, h⟩ := ob h
    split at h
    case isFalse => cases h
    rename_i hix
    cases h
    have ok := blkB_ok q1
    have hvs : ∀ j ∈ t.ixs, j ∈ (ownOf Γ.N _).map (·.2) := fun j hj => by simpa using List.all_eq_true.mp hix j hj
    refine DE.fv (de_lc g.calm (by rw [g.N]; exact g.nd) (ih.i Γ true tg iter it h1 g) (by rw [g.N, g.sc]; exact ok) hvs (fun s H C cl fp => (cTg_ok n).1 _ _ _ h2 (g.blk ok.kind s H C cl fp)) (fun s H C cl fp => ih.w _ _ _ h3 (g.blk ok.kind s H C cl fp))
      (fun s H C cl fp => (ih.e _ _ _ h4 (g.blk ok.kind s H C cl fp)).1) (notSet_ok q2 _))
  · split at h
    case h_2 => cases h
    rename_i tg iter ifs as
    split at h
    case isFalse => cases h
    rename_i q
    obtain ⟨rfl, q1, q2⟩ := q
    obtain ⟨it, h1, h⟩ := ob h
    obtain ⟨t, h2, h⟩ := ob h
    obtain ⟨w, h3, h⟩ := ob h
    obtain ⟨ck, h4, h⟩ := ob h
    obtain ⟨cv, h5, h⟩ := ob h
    split at h
    case isFalse => cases h
    rename_i hix
    cases h
    have ok := blkB_ok q1
    have hvs : ∀ j ∈ t.ixs, j ∈ (ownOf Γ.N _).map (·.2) := fun j hj => by simpa using List.all_eq_true.mp hix j hj
    refine DE.fv (de_dc g.calm (by rw [g.N]; exact g.nd) (ih.i Γ true tg iter it h1 g) (by rw [g.N, g.sc]; exact ok) hvs (fun s H C cl fp => (cTg_ok n).1 _ _ _ h2 (g.blk ok.kind s H C cl fp)) (fun s H C cl fp => ih.w _ _ _ h3 (g.blk ok.kind s H C cl fp))
      (fun s H C cl fp => (ih.e _ _ _ h4 (g.blk ok.kind s H C cl fp)).1) (fun s H C cl fp => (ih.e _ _ _ h5 (g.blk ok.kind s H C cl fp)).1) (notSet_ok q2 _))
  · split at h
    case h_2 => cases h
    split at h
    · rename_i x p
      split at h
      case isFalse => cases h
      rename_i q
      exact ih.cl Γ x _ c h g q.1 q.2.1 q.2.2 p _
    · split at h
      case h_2 => cases h
      rename_i kx dx
      split at h
      case isFalse => cases h
      rename_i q
      obtain ⟨rfl, q1, q2, q3, q4⟩ := q
      obtain ⟨o, h1, h⟩ := ob h
      obtain ⟨kk, h2, h⟩ := ob h
      obtain ⟨d, h3, rfl⟩ := om h
      exact DE.vf (de_get2 g.hu (ih.b Γ _ o h1 g) (ih.b Γ _ kk h2 g) (ih.e Γ _ d h3 g).1 (M2_ok q1 q2 q3 q4)) rfl
    · cases h
  · cases h
end
theorem okn (n : Nat) : Okn k G n := by
  induction n with
  | zero => exact okn0
  | succ n ih =>
    exact ⟨fun Γ e c h {X} {H0} {W} g => okn_e ih Γ e c h g, fun Γ e c h {X} {H0} {W} g => okn_b ih Γ e c h g, fun Γ op es c h {X} {H0} {W} g pos => okn_bo ih Γ op es c h g pos, fun Γ b es cs h {X} {H0} {W} g => okn_a ih Γ b es cs h g,
      fun Γ e c h {X} {H0} {W} g => okn_o ih Γ e c h g, fun Γ es c h {X} {H0} {W} g => okn_w ih Γ es c h g, fun Γ b tg e c h {X} {H0} {W} g => okn_i ih Γ b tg e c h g, fun Γ x es c h {X} {H0} {W} g h1 h2 h3 p pos => okn_cl ih Γ x es c h g h1 h2 h3 p pos,
      fun Γ e c h {X} {H0} {W} g => okn_t ih Γ e c h g, fun Γ op es c h {X} {H0} {W} g pos => okn_tb ih Γ op es c h g pos⟩
end
end Mp
namespace Mp
open PySem PySem.Spec PyProof.Rows L2
/-! ## the translation of statements -/
mutual
def vC : C → List Nat
  | .lit _ => []
  | .var i => [i]
  | .varB _ => []
  | .bin _ a b => vC a ++ vC b
  | .neg a => vC a
  | .cmp _ a b => vC a ++ vC b
  | .chain _ _ a b c => vC a ++ (vC b ++ vC c)
  | .not a => vC a
  | .and a b => vC a ++ vC b
  | .or a b => vC a ++ vC b
  | .ite t a b => vT t ++ (vC a ++ vC b)
  | .idx a b => vC a ++ vC b
  | .slice a lo hi => vC a ++ (vO lo ++ vO hi)
  | .tup es => vCs es
  | .lst es => vCs es
  | .dct0 => []
  | .bi _ es => vCs es
  | .isi a _ => vC a
  | .call _ es => vCs es
  | .callB _ es => vCs es
  | .get2 o k d => vC o ++ (vC k ++ vC d)
  | .lc _ it w e _ => vI it ++ (vW w ++ vC e)
  | .dc _ it w k v _ => vI it ++ (vW w ++ (vC k ++ vC v))
def vCs : Cs → List Nat
  | .nil => []
  | .cons c cs => vC c ++ vCs cs
def vO : Co → List Nat
  | .no => []
  | .yes c => vC c
def vI : Ci → List Nat
  | .pl c => vC c
  | .rg1 es => vCs es
  | .rg2 es => vCs es
  | .zip es => vCs es
  | .enum es => vCs es
def vW : Ct → List Nat
  | .no => []
  | .yes t => vT t
def vT : T → List Nat
  | .tr c => vC c
  | .cmp _ a b => vC a ++ vC b
  | .chain _ _ a b c => vC a ++ (vC b ++ vC c)
  | .not t => vT t
  | .and a b => vT a ++ vT b
  | .or a b => vT a ++ vT b
  | .ite t a b => vT t ++ (vT a ++ vT b)
end
/-- ahead of it, what it takes over is owned no more -/
def demS (Γ : Ctx) (vs : List Nat) (s : S) : S := match Γ.ow.filter (fun i => vs.contains i) with
  | [] => s
  | is => .dem is s
def isComp : Expr → Bool
  | .ListComp .. => true
  | .SetComp .. => true
  | .DictComp .. => true
  | _ => false
def swB (sc : Scope) (x : Str) (p : Pos) : Expr → Bool
  | .ListComp _ _ s pos => ((sc.names.lookup x == some .local) && p.line == pos.line) && !(s.names.any fun y => y.1 == x && (y.2 == .local || y.2 == .cell))
  | .DictComp _ _ _ s pos => ((sc.names.lookup x == some .local) && p.line == pos.line) && !(s.names.any fun y => y.1 == x && (y.2 == .local || y.2 == .cell))
  | _ => false
def isLC : Expr → Bool
  | .ListComp .. => true
  | _ => false
def starred : Expr → Bool
  | .Starred .. => true
  | _ => false
/-- a, b = x, y: stored by names, or not -/
def swpN (sc : Scope) (ts vs : List Expr) : Option (Option (List Str)) :=
  if (!(ts.length == 2 || ts.length == 3) || vs.length != ts.length) = true then some none
  else if (vs.any starred) = true then some none
  else if ((ts.filterMap fun e => match e with
    | .Name id pos => if (sc.names.lookup id == some .local && pos.line == (ts.head?.map (·.pos.line)).getD 0) = true then some id else none
    | _ => none).length != ts.length || ((ts.filterMap fun e => match e with
    | .Name id pos => if (sc.names.lookup id == some .local && pos.line == (ts.head?.map (·.pos.line)).getD 0) = true then some id else none
    | _ => none).eraseDups.length != (ts.filterMap fun e => match e with
    | .Name id pos => if (sc.names.lookup id == some .local && pos.line == (ts.head?.map (·.pos.line)).getD 0) = true then some id else none
    | _ => none).length)) = true then some none
  else if vs.all (foldedForSure 8) = true then some none
  else if vs.all (constantsAlone 8) = true then none
  else some (some (ts.filterMap fun e => match e with
    | .Name id pos => if (sc.names.lookup id == some .local && pos.line == (ts.head?.map (·.pos.line)).getD 0) = true then some id else none
    | _ => none))
theorem blk_fn {env : Env} (hk : env.scope.kind = .function) : env.blockKind = .function := by
  unfold Env.blockKind
  rw [hk]
  rfl
theorem swp_ok {env : Env} {sc : Scope} {ts vs : List Expr} {k k2 : Nat} {p p2 : Pos} {r : Option (List Str)} (hk : env.scope.kind = .function) (hs : env.scope = sc) (h : swpN sc ts vs = some r) : swappedStores [.Tuple ts k p] (.Tuple vs k2 p2) env = pure r := by
  have hb := blk_fn hk
  unfold swpN at h
  unfold swappedStores
  simp only [hb, Env.kindOf, hs]
  split at h
  · rename_i q
    cases h
    have : ((!(ts.length == 2 || ts.length == 3) || vs.length != ts.length) || (ScopeKind.function != ScopeKind.function)) = true := by rw [q]; rfl
    rw [if_pos this]
  rename_i q
  have q0 : ¬ ((!(ts.length == 2 || ts.length == 3) || vs.length != ts.length) || (ScopeKind.function != ScopeKind.function)) = true := by simpa using q
  rw [if_neg q0]
  have e1 : ∀ {α : Type} {a b : α}, (if (vs.any starred) = true then a else b) = if (vs.any fun x => match x with | .Starred _ _ => true | _ => false) = true then a else b := by
    intro α a b
    have : starred = fun x => match x with | .Starred _ _ => true | _ => false := by
      funext x
      cases x <;> rfl
    rw [this]
  refine e1.symm.trans ?_
  by_cases c1 : vs.any starred = true
  · rw [if_pos c1] at h ⊢
    cases h
    rfl
  rw [if_neg c1] at h ⊢
  split at h
  · rename_i c2
    cases h
    exact if_pos c2
  rename_i c2
  refine (if_neg c2).trans ?_
  split at h
  · rename_i c3
    cases h
    exact if_pos c3
  rename_i c3
  refine (if_neg c3).trans ?_
  split at h
  · cases h
  rename_i c4
  cases h
  refine (if_neg c4).trans ?_
  rfl
theorem sw_ok {env : Env} {sc : Scope} {x : Str} {p : Pos} {e : Expr} {l : Nat} (hk : env.scope.kind = .function) (hs : env.scope = sc) (he : ∀ a b c d, e ≠ .SetComp a b c d) : swapsWith e (some (.Name x p)) l env = pure (swB sc x p e) := by
  have hb := blk_fn hk
  cases e with
  | ListComp elt gs s pos =>
    unfold swapsWith swB
    simp only [hb, Env.kindOf, hs, Expr.pos]
    rfl
  | DictComp a b gs s pos =>
    unfold swapsWith swB
    simp only [hb, Env.kindOf, hs, Expr.pos]
    rfl
  | SetComp a b c d => exact absurd rfl (he a b c d)
  | _ => rfl
theorem sw_no {e : Expr} (h : isComp e = false) (t : Option Expr) (l : Nat) (env : Env) : swapsWith e t l env = pure false := by
  cases e <;> first | rfl | cases h
theorem sw_sub {e a b : Expr} {p : Pos} (l : Nat) (env : Env) : swapsWith e (some (.Subscript a b p)) l env = pure false := by
  cases e <;> rfl
theorem sw_tup {e : Expr} {ts : List Expr} {k : Nat} {p : Pos} (l : Nat) (env : Env) : swapsWithSole [.Tuple ts k p] e l env = pure false := by
  cases e <;> rfl
def isTup2 : Expr → Bool
  | .Tuple .. => true
  | _ => false
theorem swp_no {e : Expr} (h : isTup2 e = false) (ts : List Expr) (k : Nat) (p : Pos) (env : Env) : swappedStores [.Tuple ts k p] e env = pure none := by
  cases e <;> first | rfl | cases h
def okT (Γ : Ctx) (x : Str) : Bool := locB Γ.sc x && (Γ.fn x || Γ.sc.names.lookup x == some .local)
def nSet : Expr → Bool
  | .SetComp .. => false
  | _ => true
def isNotSlice : Expr → Bool
  | .Slice .. => false
  | _ => true
mutual
def cS : Nat → Ctx → Stmt → Option S
  | 0, _, _ => none
  | n + 1, Γ, st => match st with
    | .Pass _ => some .pass
    | .Break _ => some .brk
    | .Continue _ => some .ct
    | .Raise .. => some .never
    | .Return e _ => match e with
      | none => some .retN
      | some e => (cE n Γ e).map fun c => demS Γ (vC c) (.ret c)
    | .Expr e pos => match e with
      | .Constant (.str _) _ _ => some .pass
      | .Call (.Attribute (.Name x _) m apos) [a] [] cpos => if m = "append" then
          (if notStar a = true ∧ (apos.endLine == cpos.line) = true then (slotOf Γ x).bind fun i => (cE n Γ a).map fun c => demS Γ (vC c) (.app i c) else none)
          else (cB n Γ e).map fun c => demS Γ (vC c) (.exp c)
      | e => if isComp e = false then (cB n Γ e).map fun c => demS Γ (vC c) (.exp c) else none
    | .Assign ts e pos => match ts with
      | [.Name x p] => if okT Γ x = true then (ixOf x Γ.N).bind fun i => (cE n Γ e).bind fun c =>
          if swB Γ.sc x p e = false then (if nSet e = true then some (demS Γ (vC c) (if isFr c = true then .setF i c else .set i c)) else none)
          else if isLC e = true then some (demS Γ (vC c) (.setF i c)) else none
        else none
      | [.Tuple ts k p] => match e with
        | .Tuple vs k2 p2 => (match swpN Γ.sc ts vs with
          | some none => (cTg n Γ (.Tuple ts k p)).bind fun t => (cE n Γ (.Tuple vs k2 p2)).map fun c => demS Γ (vC c) (.asg t c)
          | some (some ns) => (match ts, vs with
            | [.Name x _, .Name y _], [a, b] => if ns = [x, y] ∧ Γ.sc.names.lookup x = some .local ∧ Γ.sc.names.lookup y = some .local then
                (ixOf x Γ.N).bind fun i => (ixOf y Γ.N).bind fun j => (cA n Γ false [a, b]).bind fun cs => if i ≠ j then some (demS Γ (vCs cs) (.par [.nm i, .nm j] cs)) else none else none
            | [.Name x _, .Name y _, .Name z _], [a, b, c] => if ns = [x, y, z] ∧ Γ.sc.names.lookup x = some .local ∧ Γ.sc.names.lookup y = some .local ∧ Γ.sc.names.lookup z = some .local then
                (ixOf x Γ.N).bind fun i => (ixOf y Γ.N).bind fun j => (ixOf z Γ.N).bind fun l => (cA n Γ false [a, b, c]).bind fun cs => if i ≠ j ∧ i ≠ l ∧ j ≠ l then some (demS Γ (vCs cs) (.par [.nm i, .nm j, .nm l] cs)) else none else none
            | _, _ => none)
          | none => none)
        | e => if isTup2 e = false then (cTg n Γ (.Tuple ts k p)).bind fun t => (cE n Γ e).map fun c => demS Γ (vC c) (.asg t c) else none
      | [.Subscript (.Name x _) ke _] => if isNotSlice ke = true then (slotOf Γ x).bind fun i => (cE n Γ ke).bind fun k => (cE n Γ e).map fun c => demS Γ (vC k ++ vC c) (.put i k c) else none
      | _ => none
    | .AugAssign t op e _ => match t with
      | .Name x _ => if okT Γ x = true then (ixOf x Γ.N).bind fun i => (cE n Γ e).bind fun c => match op with
          | .Add => some (.aug i .Add c)
          | .Sub => some (.aug i .Sub c)
          | _ => none
        else none
      | _ => none
    | .If c a b _ => (cT n Γ c).bind fun t => (cSs n Γ a).bind fun a => (cSs n Γ b).map fun b => demS Γ (vT t) (.ite t a b)
    | .For tg iter body orelse _ => match orelse with
      | [] => if notSet iter = true then (cTg n Γ tg).bind fun t => (cI n Γ false tg iter).bind fun it => (cSs n Γ body).map fun b => demS Γ (vI it) (.for_ t it b) else none
      | _ => none
    | .While c body orelse _ => match orelse with
      | [] => (cT n Γ c).bind fun t => (cSs n Γ body).map fun b => demS Γ (vT t) (.whl t b)
      | _ => none
    | _ => none
def cSs : Nat → Ctx → List Stmt → Option Ss
  | 0, _, _ => none
  | n + 1, Γ, sts => match sts with
    | [] => some .nil
    | st :: sts => (cS n Γ st).bind fun s => (cSs n Γ sts).map fun ss => .cons s ss
end
def Loc2 (X : Cx) (x : Str) : Prop := L2.Loc X.env.scope x ∧ (X.fn x = true ∨ X.env.scope.names.lookup x = some .local)
section
variable {k : Nat} {G : Nat → List D → Out D} {X : Cx} {H0 : Ent} {W : WX} {Γ : Ctx}
theorem demS_ok {vs : List Nat} {s : S} {st : Stmt} (h : DS X H0 W st (ex G s)) : DS X H0 W st (ex G (demS Γ vs s)) := by
  unfold demS
  split
  · exact h
  · exact DS.dem h _
theorem okT_ok {x : Str} (g : GE X Γ W k G) (h : okT Γ x = true) : Loc2 X x := by
  unfold okT at h
  simp only [Bool.and_eq_true, Bool.or_eq_true, beq_iff_eq] at h
  refine ⟨by rw [g.sc]; exact locB_ok h.1, ?_⟩
  rcases h.2 with q | q
  · exact .inl (g.fn x q)
  · exact .inr (by rw [g.sc]; exact q)
end
end Mp
namespace Mp
open PySem PySem.Spec PyProof.Rows L2
section
variable {k : Nat} {G : Nat → List D → Out D} {X : Cx} {H0 : Ent} {W : WX} {Γ : Ctx}
theorem set_lc {n : Nat} {elt : Expr} {gs : List Comprehension} {scope : Scope} {lp py spos : Pos} {c : C} {i : Nat} {y : Str} (h : cE n Γ (.ListComp elt gs scope lp) = some c) (g : GE X Γ W k G) (hy : X.N[i]? = some y) (hyl : X.env.scope.names.lookup y = some .local)
    (hsw : swapsWith (.ListComp elt gs scope lp) (some (.Name y py)) spos.line X.env = pure true) : DS X H0 W (.Assign [.Name y py] (.ListComp elt gs scope lp) spos) fun ρ => (ev G c ρ).st ρ (setF i ρ) := by
  cases n with
  | zero => cases h
  | succ n =>
  have ih : Okn k G n := okn n
  simp only [cE] at h
  split at h
  case h_2 => cases h
  rename_i tg iter ifs as
  split at h
  case isFalse => cases h
  rename_i q
  obtain ⟨rfl, q1, q2⟩ := q
  obtain ⟨it, h1, h⟩ := ob h
  obtain ⟨t, h2, h⟩ := ob h
  obtain ⟨w, h3, h⟩ := ob h
  obtain ⟨ce, h4, h⟩ := ob h
  split at h
  case isFalse => cases h
  rename_i hix
  cases h
  have ok := blkB_ok q1
  have hvs : ∀ j ∈ t.ixs, j ∈ (ownOf Γ.N scope.names).map (·.2) := fun j hj => by simpa using List.all_eq_true.mp hix j hj
  exact ds_lc g.calm (by rw [g.N]; exact g.nd) hy hyl hsw (ih.i Γ true tg iter it h1 g) (by rw [g.N, g.sc]; exact ok) hvs (fun s H C cl fp => (cTg_ok n).1 _ _ _ h2 (g.blk ok.kind s H C cl fp)) (fun s H C cl fp => ih.w _ _ _ h3 (g.blk ok.kind s H C cl fp))
    (fun s H C cl fp => (ih.e _ _ _ h4 (g.blk ok.kind s H C cl fp)).1) (notSet_ok q2 _)
theorem ix_ok {x : Str} {i : Nat} (g : GE X Γ W k G) (h : ixOf x Γ.N = some i) : X.N[i]? = some x := by
  rw [g.N]
  exact ixOf_ok h
theorem asg1 {tg : Expr} (h : notStar tg = true) (env : Env) : (assignEach [tg] env).map (·.2) = [assign tg env] := by
  cases tg <;> first | rfl | cases h
/-- a statement, statements -/
structure Oks (k : Nat) (G : Nat → List D → Out D) (n : Nat) : Prop where
  s : ∀ (Γ : Ctx) (st : Stmt) (c : S), cS n Γ st = some c → ∀ {X : Cx} {H0 : Ent} {W : WX}, GE X Γ W k G → PassesOwn (model X.prog X.w) X.A X.env X.xe → DS X H0 W st (ex G c)
  ss : ∀ (Γ : Ctx) (sts : List Stmt) (c : Ss), cSs n Γ sts = some c → ∀ {X : Cx} {H0 : Ent} {W : WX}, GE X Γ W k G → PassesOwn (model X.prog X.w) X.A X.env X.xe → DSs X H0 W sts (exs G c)
theorem oks_ss {n : Nat} (ih : Oks k G n) (Γ : Ctx) (sts : List Stmt) (c : Ss) (h : cSs (n + 1) Γ sts = some c) (g : GE X Γ W k G) (hp : PassesOwn (model X.prog X.w) X.A X.env X.xe) : DSs X H0 W sts (exs G c) := by
  unfold cSs at h
  split at h
  · cases h
    exact dss_nil
  · obtain ⟨s, h1, h⟩ := ob h
    obtain ⟨ss, h2, rfl⟩ := om h
    exact dss_cons (ih.s Γ _ s h1 g hp) (ih.ss Γ _ ss h2 g hp)
theorem oks_s {n : Nat} (ih : Oks k G n) (Γ : Ctx) (st : Stmt) (c : S) (h : cS (n + 1) Γ st = some c) (g : GE X Γ W k G) (hp : PassesOwn (model X.prog X.w) X.A X.env X.xe) : DS X H0 W st (ex G c) := by
  have oe : Okn k G n := okn n
  have nd : X.N.Nodup := by rw [g.N]; exact g.nd
  have kd : X.env.scope.kind = .function := by rw [g.sc]; exact g.kd
  unfold cS at h
  split at h
  · cases h
    exact ds_pass
  · cases h
    exact ds_break
  · cases h
    exact ds_continue
  · cases h
    exact ds_never
  · split at h
    · cases h
      exact ds_retN
    · obtain ⟨c', h1, rfl⟩ := om h
      exact demS_ok (ds_ret (oe.e Γ _ c' h1 g).1)
  · split at h
    · cases h
      exact ds_doc
    · rename_i x xp m apos a cpos
      split at h
      · rename_i hm
        subst hm
        split at h
        case isFalse => cases h
        rename_i q
        obtain ⟨i, h1, h⟩ := ob h
        obtain ⟨c', h2, rfl⟩ := om h
        obtain ⟨s1, s2, s3, s4⟩ := slot_ok g h1
        exact demS_ok (ds_append s1 s2 s3 s4 (oe.e Γ a c' h2 g).1 (by rw [star_cons q.1]; rfl) q.2)
      · obtain ⟨c', h1, rfl⟩ := om h
        exact demS_ok (ds_expr (oe.b Γ _ c' h1 g) (sw_no rfl _ _ _))
    · split at h
      case isFalse => cases h
      rename_i hc
      obtain ⟨c', h1, rfl⟩ := om h
      exact demS_ok (ds_expr (oe.b Γ _ c' h1 g) (sw_no hc _ _ _))
  · rename_i ts e pos
    split at h
    · rename_i x p
      split at h
      case isFalse => cases h
      rename_i hok
      obtain ⟨i, h1, h⟩ := ob h
      obtain ⟨c', h2, h⟩ := ob h
      obtain ⟨lx, fx⟩ := okT_ok g hok
      have hi := ix_ok g h1
      split at h
      · rename_i hsw
        split at h
        case isFalse => cases h
        rename_i hns
        cases h
        have hno : swapsWith e (some (.Name x p)) pos.line X.env = pure false := by
          rw [sw_ok (sc := Γ.sc) kd g.sc (fun a b c d z => by rw [z] at hns; cases hns), hsw]
        have he := oe.e Γ e c' h2 (H0 := H0) g
        split
        · rename_i hfr
          exact demS_ok (ds_setF nd hi lx fx (he.2 hfr) hno)
        · exact demS_ok (ds_set nd hi lx fx he.1 hno)
      · rename_i hsw
        split at h
        case isFalse => cases h
        rename_i hlc
        cases h
        have hsw : swB Γ.sc x p e = true := by simpa using hsw
        cases e with
        | ListComp elt gs scope lp =>
          have hyes : swapsWith (.ListComp elt gs scope lp) (some (.Name x p)) pos.line X.env = pure true := by
            rw [sw_ok (sc := Γ.sc) kd g.sc (fun a b c d z => by cases z), hsw]
          have hl : X.env.scope.names.lookup x = some .local := by
            rw [g.sc]
            unfold swB at hsw
            simp only [Bool.and_eq_true, beq_iff_eq] at hsw
            exact hsw.1.1
          exact demS_ok (set_lc h2 g hi hl hyes)
        | _ => cases hlc
    · rename_i tes tk tp
      split at h
      · rename_i vs k2 p2
        split at h
        · rename_i hsp
          obtain ⟨t, h1, h⟩ := ob h
          obtain ⟨c', h2, rfl⟩ := om h
          exact demS_ok (ds_asgT (oe.e Γ _ c' h2 g).1 ((cTg_ok n).1 Γ _ t h1 g) (sw_tup _ _) (swp_ok kd g.sc hsp) (asg1 rfl _))
        · rename_i ns hsp
          have hw := fun k p k2 p2 => swp_ok (env := X.env) (k := k) (k2 := k2) (p := p) (p2 := p2) kd g.sc hsp
          split at h
          · rename_i x px y py a b
            split at h
            case isFalse => cases h
            rename_i q
            obtain ⟨rfl, l1, l2⟩ := q
            obtain ⟨i, h1, h⟩ := ob h
            obtain ⟨j, h2, h⟩ := ob h
            obtain ⟨cs, h3, h⟩ := ob h
            split at h
            case isFalse => cases h
            rename_i hij
            cases h
            exact demS_ok (ds_par2 g.calm nd (ix_ok g h1) (ix_ok g h2) hij (by rw [g.sc]; exact l1) (by rw [g.sc]; exact l2) (oe.a Γ false _ cs h3 g) (hw _ _ _ _) (sw_tup _ _))
          · rename_i x px y py z pz a b d
            split at h
            case isFalse => cases h
            rename_i q
            obtain ⟨rfl, l1, l2, l3⟩ := q
            obtain ⟨i, h1, h⟩ := ob h
            obtain ⟨j, h2, h⟩ := ob h
            obtain ⟨l, h3, h⟩ := ob h
            obtain ⟨cs, h4, h⟩ := ob h
            split at h
            case isFalse => cases h
            rename_i hij
            cases h
            exact demS_ok (ds_par3 g.calm nd (ix_ok g h1) (ix_ok g h2) (ix_ok g h3) hij.1 hij.2.1 hij.2.2 (by rw [g.sc]; exact l1) (by rw [g.sc]; exact l2) (by rw [g.sc]; exact l3) (oe.a Γ false _ cs h4 g) (hw _ _ _ _) (sw_tup _ _))
          · cases h
        · cases h
      · split at h
        case isFalse => cases h
        rename_i ht
        obtain ⟨t, h1, h⟩ := ob h
        obtain ⟨c', h2, rfl⟩ := om h
        exact demS_ok (ds_asgT (oe.e Γ _ c' h2 g).1 ((cTg_ok n).1 Γ _ t h1 g) (sw_tup _ _) (swp_no ht _ _ _ _) (asg1 rfl _))
    · rename_i x xp ke sp
      split at h
      case isFalse => cases h
      rename_i hns
      obtain ⟨i, h1, h⟩ := ob h
      obtain ⟨ck, h2, h⟩ := ob h
      obtain ⟨cv, h3, rfl⟩ := om h
      obtain ⟨s1, s2, s3, s4⟩ := slot_ok g h1
      refine demS_ok (ds_put g.hu s1 s2 s3 s4 (oe.e Γ _ ck h2 g).1 (oe.e Γ _ cv h3 g).1 (sw_sub _ _) fun v => ?_)
      cases ke <;> first | rfl | cases hns
    · cases h
  · split at h
    case h_2 => cases h
    rename_i x xp
    split at h
    case isFalse => cases h
    rename_i hok
    obtain ⟨i, h1, h⟩ := ob h
    obtain ⟨c', h2, h⟩ := ob h
    obtain ⟨lx, fx⟩ := okT_ok g hok
    split at h
    · cases h
      exact ds_aug ip_add (fun x y => by cases x <;> cases y <;> rfl) nd (ix_ok g h1) lx fx (oe.e Γ _ c' h2 g).1
    · cases h
      exact ds_aug ip_sub (fun x y => by cases x <;> cases y <;> rfl) nd (ix_ok g h1) lx fx (oe.e Γ _ c' h2 g).1
    · cases h
  · obtain ⟨t, h1, h⟩ := ob h
    obtain ⟨a, h2, h⟩ := ob h
    obtain ⟨b, h3, rfl⟩ := om h
    exact demS_ok (ds_if (oe.t Γ _ t h1 g) (ih.ss Γ _ a h2 g hp) (ih.ss Γ _ b h3 g hp))
  · split at h
    case h_2 => cases h
    split at h
    case isFalse => cases h
    rename_i hns
    obtain ⟨t, h1, h⟩ := ob h
    obtain ⟨it, h2, h⟩ := ob h
    obtain ⟨b, h3, rfl⟩ := om h
    exact demS_ok (ds_for hp g.calm (oe.i Γ false _ _ it h2 g) ((cTg_ok n).1 Γ _ t h1 g) (ih.ss Γ _ b h3 g hp) (notSet_ok hns _))
  · split at h
    case h_2 => cases h
    obtain ⟨t, h1, h⟩ := ob h
    obtain ⟨b, h2, rfl⟩ := om h
    exact demS_ok (DS.any (fun m => ds_while hp (oe.t Γ _ t h1 g) (ih.ss Γ _ b h2 g hp) m) fun ρ => whileR_or ρ)
  · cases h
theorem oks (n : Nat) : Oks k G n := by
  induction n with
  | zero => exact ⟨fun _ _ _ h => (nomatch h), fun _ _ _ h => (nomatch h)⟩
  | succ n ih => exact ⟨fun Γ st c h {X} {H0} {W} g hp => oks_s ih Γ st c h g hp, fun Γ sts c h {X} {H0} {W} g hp => oks_ss ih Γ sts c h g hp⟩
end
end Mp
namespace Mp
open PySem PySem.Spec PyProof.Rows L2
/-! ## parameters -/
theorem zip_look {ps : List Str} {us : List Value} (hl : us.length = ps.length) {n : Str} (h : n ∈ ps) : ((ps.zip us).lookup n).isNone = false := by
  induction ps generalizing us with
  | nil => cases h
  | cons p ps ih =>
    cases us with
    | nil => simp at hl
    | cons u us =>
      rw [List.zip_cons_cons, List.lookup_cons]
      cases e : n == p with
      | true => rfl
      | false =>
        rcases List.mem_cons.mp h with rfl | h
        · simp at e
        · exact ih (by simpa using hl) h
theorem zip_map {ps : List Str} {us : List Value} (hl : us.length = ps.length) (hn : ps.Nodup) : ps.filterMap (fun n => ((ps.zip us).lookup n).map (n, ·)) = ps.zip us := by
  have key : ∀ (qs : List Str) (vs : List Value), qs.Nodup → vs.length = qs.length → ∀ (f : Str → Option Value), (∀ n ∈ qs, f n = (qs.zip vs).lookup n) → qs.filterMap (fun n => (f n).map (n, ·)) = qs.zip vs := by
    intro qs
    induction qs with
    | nil => intros; rfl
    | cons q qs ih =>
      intro vs hq hv f hf
      cases vs with
      | nil => simp at hv
      | cons v vs =>
        obtain ⟨h1, h2⟩ := List.nodup_cons.mp hq
        have e1 : f q = some v := by
          rw [hf q (List.mem_cons_self ..), List.zip_cons_cons, List.lookup_cons]
          simp
        rw [List.filterMap_cons, e1, List.zip_cons_cons]
        show (q, v) :: _ = _
        rw [ih vs h2 (by simpa using hv) f fun n hn => ?_]
        rw [hf n (List.mem_cons_of_mem _ hn), List.zip_cons_cons, List.lookup_cons]
        have : (n == q) = false := by
          simp only [beq_eq_false_iff_ne]
          rintro rfl
          exact h1 hn
        rw [this]
  exact key ps us hn hl _ fun n _ => rfl
/-- positional parameters alone -/
def posB (a : Arguments) (ps : List Str) : Bool := a.posonlyargs.isEmpty && decide (a.args.map (·.arg) = ps) && a.vararg.isNone && a.kwonlyargs.isEmpty && a.kwarg.isNone
theorem bind_pos {x qual : Str} {params : Arguments} {body : List Stmt} {scope : Scope} {kV doc pm : Value} {an : Option Addr} {cdv ct : Value} {ps : List Str} (h : posB params ps = true) (hn : ps.Nodup) {us : List Value} (hl : us.length = ps.length) :
    bindArgs (PySem.W.fnOf x qual params body scope .none kV doc pm an cdv ct) ⟨us, []⟩ = pure (ps.zip us) := by
  obtain ⟨po, as, va, ko, kd, kw, df⟩ := params
  unfold posB at h
  simp only [Bool.and_eq_true, List.isEmpty_iff, Option.isNone_iff_eq_none, decide_eq_true_eq] at h
  obtain ⟨⟨⟨⟨rfl, rfl⟩, rfl⟩, rfl⟩, rfl⟩ := h
  unfold bindArgs
  simp only [PySem.W.fnOf]
  have e0 : seqItems? Value.none = pure none := rfl
  simp [e0, hl]
  have hf : ∀ m, List.filter (fun n => (List.lookup n ((List.map (fun x => x.arg) as).zip us)).isNone) (List.take m (List.map (fun x => x.arg) as)) = [] := fun m =>
    List.filter_eq_nil_iff.mpr fun n hn => by
      rw [zip_look hl (List.mem_of_mem_take hn)]
      simp
  have hz := zip_map hl hn
  rw [List.filterMap_map] at hz
  rw [if_neg]
  · exact congrArg pure hz
  · simp only [List.map_nil, List.nil_append, hf]
    simp
/-! ## the program's defs -/
structure DefM where
  id : Nat
  d : He.DefD
  ps : List Str
  N : List Str
  ow : List Nat
def DefM.ctx (m : DefM) (con : List (Str × D)) (fns : List (Str × Nat × Bool)) : Ctx := ⟨m.N, m.d.scope, fun _ => true, con, fns, m.ow⟩
def scopeB (N ps : List Str) (sc : Scope) : Bool := (sc.kind == .function) && (!sc.isCoroutine) && (!sc.isGenerator) && decide N.Nodup && decide (N.take ps.length = ps) && ps.all (fun x => locB sc x) && sc.names.all (fun y => !(y.2 == .free))
theorem scopeB_ok {N ps : List Str} {sc : Scope} (h : scopeB N ps sc = true) : FnScope N ps sc := by
  unfold scopeB at h
  simp only [Bool.and_eq_true, beq_iff_eq, decide_eq_true_eq, Bool.not_eq_true', List.all_eq_true] at h
  obtain ⟨⟨⟨⟨⟨⟨h1, h2⟩, h3⟩, h4⟩, h5⟩, h6⟩, h7⟩ := h
  exact ⟨h1, h2, h3, h4, h5, fun x hx => locB_ok (h6 x hx), fun y hy e => by have := h7 y hy; rw [e] at this; cases this⟩
def DefM.ok (m : DefM) : Bool := scopeB m.N m.ps m.d.scope && posB m.d.params m.ps && m.d.dfl.isEmpty && m.d.kwd.isEmpty
def cFn (n : Nat) (con : List (Str × D)) (fns : List (Str × Nat × Bool)) (m : DefM) : Option Fn := if m.ok = true then (cSs n (m.ctx con fns) m.d.body).map fun b => ⟨m.ps.length, m.N.length, b⟩ else none
def cFns (n : Nat) (con : List (Str × D)) (fns : List (Str × Nat × Bool)) : List DefM → Option (List (Nat × Fn))
  | [] => some []
  | m :: ms => (cFn n con fns m).bind fun f => (cFns n con fns ms).map fun fs => (m.id, f) :: fs
def msAt : List DefM → Nat → Option DefM
  | [], _ => none
  | m :: ms, i => if i = m.id then some m else msAt ms i
theorem msAt_mem : ∀ {ms : List DefM} {i : Nat} {m : DefM}, msAt ms i = some m → m ∈ ms
  | [], _, _, h => by cases h
  | m0 :: ms, i, m, h => by
    unfold msAt at h
    split at h
    · cases h
      exact List.mem_cons_self ..
    · exact List.mem_cons_of_mem _ (msAt_mem h)
theorem cFns_get {n : Nat} {con : List (Str × D)} {fns : List (Str × Nat × Bool)} : ∀ {ms : List DefM} {P : List (Nat × Fn)}, cFns n con fns ms = some P → ∀ {i : Nat} {m : DefM}, msAt ms i = some m → ∃ f, P.lookup i = some f ∧ cFn n con fns m = some f
  | [], _, _, i, m, hm => by cases hm
  | m0 :: ms, P, h, i, m, hm => by
    unfold cFns at h
    obtain ⟨f, h1, h⟩ := ob h
    obtain ⟨fs, h2, rfl⟩ := om h
    unfold msAt at hm
    rw [List.lookup_cons]
    split at hm
    · rename_i e
      cases hm
      subst e
      exact ⟨f, by simp, h1⟩
    · rename_i e
      obtain ⟨g, h3, h4⟩ := cFns_get h2 hm
      have e2 : (i == m0.id) = false := by simpa using e
      exact ⟨g, by rw [e2]; exact h3, h4⟩
/-! ## what the written part says -/
mutual
def wrB (K : PySem.W.Frag) : Nat → Value → D → Bool
  | _, .int i _, .int j => decide (i = j)
  | _, .str x _, .str y => decide (x = y)
  | _, .bool x, .bool y => x == y
  | _, .none, .none => true
  | n + 1, .ref a, .tuple ds => (match K.lookup a with
    | some ⟨.type c, _, .seq is _, _⟩ => decide (c = "tuple") && (decide (is.size ≤ sizeLine) && wrBs K n is.toList ds)
    | _ => false)
  | _, _, _ => false
def wrBs (K : PySem.W.Frag) : Nat → List Value → List D → Bool
  | _, [], [] => true
  | n, u :: us, d :: ds => wrB K n u d && wrBs K n us ds
  | _, _, _ => false
end
section
variable {K : PySem.W.Frag}
mutual
theorem wrB_ok : ∀ (n : Nat) (u : Value) (d : D), wrB K n u d = true → ∃ v, RelV v u ∧ WrRep K v d
  | n, .int i t, d, h => by
    cases d with
    | int j =>
      simp only [wrB, decide_eq_true_eq] at h
      subst h
      exact ⟨.int i, ⟨t, rfl⟩, fun _ _ => .int i⟩
    | _ => simp [wrB] at h
  | n, .str x t, d, h => by
    cases d with
    | str y =>
      simp only [wrB, decide_eq_true_eq] at h
      subst h
      exact ⟨.str x, ⟨t, rfl⟩, fun _ _ => .str x⟩
    | _ => simp [wrB] at h
  | n, .bool x, d, h => by
    cases d with
    | bool y =>
      simp only [wrB, beq_iff_eq] at h
      subst h
      exact ⟨.bl x, rfl, fun _ _ => .bl x⟩
    | _ => simp [wrB] at h
  | n, .none, d, h => by
    cases d with
    | none => exact ⟨.non, rfl, fun _ _ => .non⟩
    | _ => simp [wrB] at h
  | 0, .ref a, d, h => by cases d <;> simp [wrB] at h
  | n + 1, .ref a, d, h => by
    cases d with
    | tuple ds =>
      simp only [wrB] at h
      split at h
      · rename_i c od is k sl heq
        simp only [Bool.and_eq_true, decide_eq_true_eq] at h
        obtain ⟨vs, h1, h2⟩ := wrBs_ok n is.toList ds h.2.2
        exact ⟨.ref a, rfl, fun U H => .tup (.inr ⟨_, is, k, ⟨heq, congrArg Value.type h.1⟩, rfl, h.2.1, h1⟩) (h2 U H)⟩
      · cases h
    | _ => simp [wrB] at h
  | n, .ellipsis, d, h => by cases n <;> cases d <;> simp [wrB] at h
  | n, .notImplemented, d, h => by cases n <;> cases d <;> simp [wrB] at h
  | n, .float _ _, d, h => by cases n <;> cases d <;> simp [wrB] at h
  | n, .bytes _ _, d, h => by cases n <;> cases d <;> simp [wrB] at h
  | n, .type _, d, h => by cases n <;> cases d <;> simp [wrB] at h
  | n, .builtin _, d, h => by cases n <;> cases d <;> simp [wrB] at h
theorem wrBs_ok : ∀ (n : Nat) (us : List Value) (ds : List D), wrBs K n us ds = true → ∃ vs, Vals vs us ∧ ∀ U H, Reps K U H vs ds
  | n, [], [], _ => ⟨[], .nil, fun _ _ => .nil⟩
  | n, u :: us, d :: ds, h => by
    simp only [wrBs, Bool.and_eq_true] at h
    obtain ⟨v, r1, r2⟩ := wrB_ok n u d h.1
    obtain ⟨vs, s1, s2⟩ := wrBs_ok n us ds h.2
    exact ⟨v :: vs, .cons r1 s1, fun U H => .cons (r2 U H) (s2 U H)⟩
  | n, [], _ :: _, h => by simp [wrBs] at h
  | n, _ :: _, [], h => by simp [wrBs] at h
end
end
end Mp
namespace Mp
open PySem PySem.Spec PyProof.Rows L2
/-! ## the program -/
structure Prg where
  ms : List DefM
  con : List (Str × D)
  fns : List (Str × Nat × Bool)
def conB (K : PySem.W.Frag) (c : Str × D) : Bool := match PySem.W.nsIn K mainGlobals c.1 with
  | some (some u) => wrB K 30 u c.2
  | _ => false
def fnB (p : Prg) (K : PySem.W.Frag) (f : Str × Nat × Bool) : Bool := (He.Fa.glo f.1).ok K && (match msAt p.ms f.2.1 with
  | some m => decide (He.ga K f.1 = He.fAd K m.d.at_)
  | none => false)
def sayB (p : Prg) (K : PySem.W.Frag) : Bool := (p.ms.all fun m => m.d.ok K) && (p.con.all (conB K)) && (p.fns.all (fnB p K)) && (biNames.all fun x => (He.Fa.free x).ok K)
def obsM (p : Prg) (K : PySem.W.Frag) : He.AlD := (sayB p K, p.ms.map fun m => He.fnW K m.d.at_)
def valM (p : Prg) : He.AlD := (true, p.ms.map fun m => m.d.val)
/-- no list stands in it -/
def noL (K : PySem.W.Frag) : PySem.W.Frag := K.filter fun q => !(q.2.cls == .type "list")
def NoList (K : PySem.W.Frag) : Prop := ∀ a o, K.lookup a = some o → o.cls ≠ .type "list"
theorem lookup_mem {α : Type} : ∀ {l : List (Addr × α)} {a : Addr} {o : α}, l.lookup a = some o → (a, o) ∈ l
  | (b, o') :: r, a, o, h => by
    rw [List.lookup_cons] at h
    cases e : a == b with
    | true =>
      rw [e] at h
      cases h
      rw [beq_iff_eq.mp e]
      exact List.mem_cons_self ..
    | false =>
      rw [e] at h
      exact List.mem_cons_of_mem _ (lookup_mem h)
theorem noL_no (K : PySem.W.Frag) : NoList (noL K) := fun a o h e => by
  have := (List.mem_filter.mp (lookup_mem h)).2
  rw [e] at this
  simp at this
theorem frG_mem {g : Addr → Option Obj} : ∀ {as : List Addr} {a : Addr} {o : Obj}, (a, o) ∈ He.frG g as → g a = some o := by
  intro as a o h
  unfold He.frG at h
  obtain ⟨b, _, hb⟩ := List.mem_filterMap.mp h
  cases e : g b with
  | none => rw [e] at hb; cases hb
  | some q =>
    rw [e] at hb
    cases hb
    exact e
theorem noL_in {as : List Addr} {h : Heap} : (noL (He.frG h.get? as)).In h := fun a o e => frG_mem (List.mem_filter.mp (lookup_mem e)).1
def obsMG (p : Prg) (g : Addr → Option Obj) : He.AlD := obsM p (noL (He.frG g (He.asD g 4)))
def hookM (p : Prg) : PySem.W.Hook where
  α := He.AlD
  obs := fun s => obsMG p s.heap.get?
  val := fun _ => valM p
  says := fun _ h => ∃ K : PySem.W.Frag, K.In h ∧ NoList K ∧ obsM p K = valM p
  of := fun _ _ e => ⟨_, noL_in, noL_no _, e⟩
  keeps := fun _ _ _ ⟨K, hK, hn, c⟩ k => ⟨K, PySem.W.Frag.In.keeps hK k, hn, c⟩
theorem obsMG_eq {p : Prg} {g : Addr → Option Obj} {s : Shared} (h : ∀ a, g a = s.heap.get? a) : obsMG p g = (hookM p).obs s := by
  have e : g = s.heap.get? := funext h
  rw [e] <;> rfl
section
variable {p : Prg} {K : PySem.W.Frag}
theorem says_def (c : obsM p K = valM p) {m : DefM} (h : m ∈ p.ms) : ∃ fd, FunD K m.d.name m.d.qual m.d.params m.d.body m.d.scope (m.d.dvs K) (m.d.kws K) (He.fAd K m.d.at_) fd := by
  have c1 : sayB p K = true := congrArg (fun z : He.AlD => z.1) c
  unfold sayB at c1
  simp only [Bool.and_eq_true, List.all_eq_true] at c1
  have e : p.ms.map (fun m => He.fnW K m.d.at_) = p.ms.map fun m => m.d.val := congrArg (fun z : He.AlD => z.2) c
  obtain ⟨i, hi⟩ := List.getElem?_of_mem h
  have e2 : (p.ms.map fun m => He.fnW K m.d.at_)[i]? = (p.ms.map fun m => m.d.val)[i]? := by rw [e]
  rw [List.getElem?_map, List.getElem?_map, hi] at e2
  exact He.DefD.funD (Option.some.inj e2) (c1.1.1.1 m h)
theorem says_con (c : obsM p K = valM p) {x : Str} {d : D} (h : p.con.lookup x = some d) {hp : Heap} {mg : Str → Option Value} (X : K.In hp) (G : hp.Ns mainGlobals mg) : ∃ u v, mg x = some u ∧ RelV v u ∧ WrRep K v d := by
  have c1 : sayB p K = true := congrArg (fun z : He.AlD => z.1) c
  unfold sayB at c1
  simp only [Bool.and_eq_true, List.all_eq_true] at c1
  have h2 := c1.1.1.2 (x, d) (PySem.mem_of_lookup h)
  unfold conB at h2
  split at h2
  · rename_i u e
    obtain ⟨v, r, w⟩ := wrB_ok 30 u d h2
    exact ⟨u, v, PySem.W.mg_of X G e, r, w⟩
  · cases h2
theorem says_fn (c : obsM p K = valM p) {x : Str} {i : Nat} {b : Bool} (h : p.fns.lookup x = some (i, b)) {hp : Heap} {mg : Str → Option Value} (X : K.In hp) (G : hp.Ns mainGlobals mg) : ∃ m, msAt p.ms i = some m ∧ mg x = some (.ref (He.fAd K m.d.at_)) := by
  have c1 : sayB p K = true := congrArg (fun z : He.AlD => z.1) c
  unfold sayB at c1
  simp only [Bool.and_eq_true, List.all_eq_true] at c1
  have h2 := c1.1.2 (x, i, b) (PySem.mem_of_lookup h)
  unfold fnB at h2
  simp only [Bool.and_eq_true] at h2
  obtain ⟨h3, h4⟩ := h2
  split at h4
  · rename_i m e
    have := He.glo_ok X G h3
    rw [of_decide_eq_true h4] at this
    exact ⟨m, e, this⟩
  · cases h4
theorem says_bi (c : obsM p K = valM p) {x : Str} (h : x ∈ biNames) {hp : Heap} {mg : Str → Option Value} (X : K.In hp) (G : hp.Ns mainGlobals mg) : mg x = none := by
  have c1 : sayB p K = true := congrArg (fun z : He.AlD => z.1) c
  unfold sayB at c1
  simp only [Bool.and_eq_true, List.all_eq_true] at c1
  exact He.free_ok X G (c1.2 x h)
/-- every def does what its translation says, so many calls deep -/
theorem prog_ok {P : List (Nat × Fn)} {fuel : Nat} (hP : cFns fuel p.con p.fns p.ms = some P) (c : obsM p K = valM p) :
    ∀ {i : Nat} {m : DefM}, msAt p.ms i = some m → ∃ fd, Binds K fd m.ps [] ∧ PySem.W.keepIn K (.ref (He.fAd K m.d.at_)) = true ∧ (∀ (s : Shared) (us : List Value), us.length = m.ps.length → BindsTo s fd ⟨us, []⟩ (m.ps.zip us)) ∧
      ∀ {Pr : Program} {w : World} {mg : Str → Option Value} {base : Heap}, K.In base → base.Ns mainGlobals mg → ∀ n, FnOk Pr w K mg base (L2.CX Pr w) n (He.fAd K m.d.at_) fd m.ps (spG mg K m.ps.length (run P n i)) := by
  have choice : ∀ {i : Nat} {m : DefM}, msAt p.ms i = some m → ∃ fd, FunD K m.d.name m.d.qual m.d.params m.d.body m.d.scope [] [] (He.fAd K m.d.at_) fd ∧ Binds K fd m.ps [] ∧ (∀ (s : Shared) (us : List Value), us.length = m.ps.length → BindsTo s fd ⟨us, []⟩ (m.ps.zip us)) := by
    intro i m hm
    obtain ⟨fd, F⟩ := says_def c (msAt_mem hm)
    obtain ⟨f, _, hf⟩ := cFns_get hP hm
    unfold cFn at hf
    split at hf
    case isFalse => cases hf
    rename_i hok
    unfold DefM.ok at hok
    simp only [Bool.and_eq_true, List.isEmpty_iff] at hok
    obtain ⟨⟨⟨h1, h2⟩, h3⟩, h4⟩ := hok
    have e1 : m.d.dvs K = [] := by unfold He.DefD.dvs; rw [h3]; rfl
    have e2 : m.d.kws K = [] := by unfold He.DefD.kws; rw [h4]; rfl
    rw [e1, e2] at F
    have hnd : m.ps.Nodup := by
      have S := scopeB_ok h1
      rw [← S.pre]
      exact S.nd.sublist (List.take_sublist ..)
    exact ⟨fd, F, F.bindsN fun kV doc pm an cdv ct us hl => bind_pos h2 hnd hl, F.bindsA fun kV doc pm an cdv ct us hl => bind_pos h2 hnd hl⟩
  have all : ∀ {Pr : Program} {w : World} {mg : Str → Option Value} {base : Heap}, K.In base → base.Ns mainGlobals mg → ∀ n, ∀ {i : Nat} {m : DefM} {fd : FuncData}, msAt p.ms i = some m → FunD K m.d.name m.d.qual m.d.params m.d.body m.d.scope [] [] (He.fAd K m.d.at_) fd → FnOk Pr w K mg base (L2.CX Pr w) n (He.fAd K m.d.at_) fd m.ps (spG mg K m.ps.length (run P n i)) := by
    intro Pr w mg base X G n
    induction n with
    | zero =>
      intro i m fd hm F
      exact ⟨fun vs H Q E ⟨B, ds, _, r, hl, _⟩ => by rw [Reps.length r]; exact hl, fun _ _ _ _ _ _ _ _ _ _ _ _ _ ⟨_, _, _, _, _, q⟩ => q.elim⟩
    | succ n ih =>
      intro i m fd hm F
      obtain ⟨f, hf, hc⟩ := cFns_get hP hm
      unfold cFn at hc
      split at hc
      case isFalse => cases hc
      rename_i hok
      obtain ⟨b, hb, rfl⟩ := om hc
      unfold DefM.ok at hok
      simp only [Bool.and_eq_true] at hok
      have S := scopeB_ok hok.1.1.1
      refine fn_ok (fb := exs (run P n) b) F S (fun ds hl => ?_) fun cdv A outer s H E H0 hr => ?_
      · show (match P.lookup i with
          | none => Out.stuck
          | some fn => if ds.length = fn.np then (exs (run P n) fn.body (rho0 fn.nn ds)).fin else .stuck) = _
        rw [hf]
        exact if_pos hl
      · refine (oks (k := n) fuel).ss (m.ctx p.con p.fns) m.d.body b hb ?_ (passes_of rfl)
        refine ⟨rfl, S.nd, rfl, S.kind, rfl, fun x hx => rfl, hr, takes_of rfl rfl rfl rfl, fun x d hx => says_con c hx X G, fun x j bb hx => ?_, fun x hx => says_bi c hx X G⟩
        obtain ⟨m', hm', hmg⟩ := says_fn c hx X G
        obtain ⟨fd', F', hB, _⟩ := choice hm'
        refine ⟨m'.ps.length, _, fd', m'.ps, ih hm' F', fun ds hl => ?_, hmg, F'.kp, hB⟩
        obtain ⟨f', hf', hc'⟩ := cFns_get hP hm'
        have : f'.np = m'.ps.length := by
          unfold cFn at hc'
          split at hc'
          · obtain ⟨b', _, rfl⟩ := om hc'
            rfl
          · cases hc'
        exact run_arity P n j hf' ds (by rw [this]; exact hl)
  intro i m hm
  obtain ⟨fd, F, hB, hB2⟩ := choice hm
  exact ⟨fd, hB, F.kp, hB2, fun {Pr} {w} {mg} {base} X G n => all X G n hm F⟩
end
/-! ## a law -/
/-- the script's list -/
theorem script_rep {K : PySem.W.Frag} {H : Hp} {a : Addr} {ns : List Int} (hn : NoList K) (h : SqL K H a (ns.map V.int)) : Reps K NoU H [.ref a] [.list (ns.map .int)] := by
  refine .cons ?_ .nil
  rcases h with h | ⟨o, _, _, h1, h2, _⟩
  · exact .lst (fun z => z) h (Reps.of_ints ns)
  · exact (hn a o h1 h2).elim
theorem law_sp {mg : Str → Option Value} {K : PySem.W.Frag} {g : List D → Out D} {H : Hp} {a : Addr} {ns : List Int} (hn : NoList K) (hS : SqL K H a (ns.map V.int)) (hg : g [.list (ns.map .int)] = .ok (.bool true)) :
    spG mg K 1 g [.ref a] H (fun v _ => v = .bl true) fun _ _ _ => False := by
  refine ⟨NoU, _, fun a z => z.elim, script_rep hn hS, rfl, ?_⟩
  rw [hg]
  intro v H' _ r
  cases r
  rfl
theorem FnOk.cx {P : Program} {w : World} {K : PySem.W.Frag} {mg : Str → Option Value} {base : Heap} {CX CX' : CXT} {k : Nat} {f : Addr} {fd : FuncData} {ps : List Str} {sp : Sp} (F : FnOk P w K mg base CX k f fd ps sp) (h : ∀ outer H s E e s', CX outer H s E e s' → CX' outer H s E e s') : FnOk P w K mg base CX' k f fd ps sp :=
  ⟨F.len, fun A outer s H args us vs Q E hr e0 hb r hsp => codeAny_mono (F.run A outer s H args us vs Q E hr e0 hb r hsp) fun r s' hq => by
    cases r with
    | error e => exact h _ _ _ _ _ _ hq
    | ok fl => cases fl <;> exact hq⟩
/-- what any world's calls may let out -/
def CXw (Pr : Program) : CXT := fun outer H s E e s' => ∃ w, L2.CX Pr w outer H s E e s'
theorem walk_law {l : PySem.W.OpenLaw} {n k : Nat} {q : Program} {loose : List Str} {XP : (Str → Option Value) → Heap → Prop} {d : DefRec} {x : Str} {p : Prg} {P : List (Nat × Fn)} {fuel i : Nat} {b : Bool}
    (hn : l.most = some n) (hn2 : n ≤ sizeLine) (hdf : d.params.defaults = []) (hr : Room k callerA) (hP : cFns fuel p.con p.fns p.ms = some P) (hf : p.fns.lookup d.name = some (i, b)) (hx : (msAt p.ms i).map (·.ps) = some [x])
    (hrun : ∀ ns : List Int, ns.length ≤ n → run P k i [.list (ns.map .int)] = .ok (.bool true)) : PySem.W.WalkO q loose XP (hookM p).says l.row.toRowW d [] (fun f vs => PySem.call f vs) := by
  refine walk_ofE (CX := CXw l.prog) (x := x) hn hn2 hdf hr (fun w mg fa h Y G hmg => ?_) fun H s e s' ⟨w, z⟩ => ?_
  · obtain ⟨K, X, hno, c⟩ := Y
    obtain ⟨m, hm, hmg2⟩ := says_fn c hf X G
    rw [hm] at hx
    have hps : m.ps = [x] := Option.some.inj hx
    rw [hmg] at hmg2
    cases hmg2
    obtain ⟨fd, _, _, hB, hF⟩ := prog_ok hP c hm
    rw [hps] at hB hF
    exact ⟨K, fd, _, X, fun s u => hB s [u] rfl, fun H a ns hl _ hS => law_sp hno hS (hrun ns hl), fun base X' G' => Mp.FnOk.cx (hF X' G' k) fun _ _ _ _ _ _ z => ⟨w, z⟩⟩
  · obtain ⟨_, _, _, _, _, _, _, _, _, _, _, _, z⟩ := z
    exact z.elim
end Mp
namespace Mp
open PySem PySem.Spec PyProof.Rows L2
/-! ## steps of the meaning, for simp -/
section
variable {α β : Type} {G : Nat → List D → Out D} {ρ : Rho}
@[simp] theorem ok_bind (a : α) (f : α → Out β) : (Out.ok a).bind f = f a := (rfl)
@[simp] theorem stuck_bind (f : α → Out β) : (Out.stuck : Out α).bind f = .stuck := (rfl)
@[simp] theorem ok_st (a : α) (f : α → SOut) : (Out.ok a).st ρ f = f a := (rfl)
@[simp] theorem stuck_st (f : α → SOut) : (Out.stuck : Out α).st ρ f = .stuck := (rfl)
@[simp] theorem nx_seq (f : Rho → SOut) : (SOut.nx ρ).seq f = f ρ := (rfl)
@[simp] theorem ret_seq (d : D) (f : Rho → SOut) : (SOut.ret d).seq f = .ret d := (rfl)
@[simp] theorem brk_seq (f : Rho → SOut) : (SOut.brk ρ).seq f = .brk ρ := (rfl)
@[simp] theorem ct_seq (f : Rho → SOut) : (SOut.ct ρ).seq f = .ct ρ := (rfl)
@[simp] theorem stuck_seq (f : Rho → SOut) : SOut.stuck.seq f = .stuck := (rfl)
@[simp] theorem nx_fin : (SOut.nx ρ).fin = .ok .none := (rfl)
@[simp] theorem ret_fin (d : D) : (SOut.ret d).fin = .ok d := (rfl)
@[simp] theorem getV_0 (d : D) : getV (some (false, d) :: ρ) 0 = .ok d := (rfl)
@[simp] theorem getV_s (o : Option (Bool × D)) (i : Nat) : getV (o :: ρ) (i + 1) = getV ρ i := (rfl)
@[simp] theorem getB_0 (b : Bool) (d : D) : getB (some (b, d) :: ρ) 0 = .ok d := (rfl)
@[simp] theorem getB_s (o : Option (Bool × D)) (i : Nat) : getB (o :: ρ) (i + 1) = getB ρ i := (rfl)
@[simp] theorem ev_lit (d : D) : ev G (.lit d) ρ = .ok d := (rfl)
@[simp] theorem ev_var (i : Nat) : ev G (.var i) ρ = getV ρ i := (rfl)
@[simp] theorem ev_varB (i : Nat) : ev G (.varB i) ρ = getB ρ i := (rfl)
@[simp] theorem ev_bin (o : BOp) (a b : C) : ev G (.bin o a b) ρ = (ev G a ρ).bind fun x => (ev G b ρ).bind fun y => o.f x y := (rfl)
@[simp] theorem ev_neg (a : C) : ev G (.neg a) ρ = (ev G a ρ).bind negD := (rfl)
@[simp] theorem ev_cmp (o : COp) (a b : C) : ev G (.cmp o a b) ρ = (ev G a ρ).bind fun x => (ev G b ρ).bind fun y => o.f x y := (rfl)
@[simp] theorem ev_chain (o o' : COp) (a b c : C) : ev G (.chain o o' a b c) ρ = (ev G a ρ).bind fun x => (ev G b ρ).bind fun y => chainD x y o.f o'.f (ev G c ρ) := (rfl)
@[simp] theorem ev_not (a : C) : ev G (.not a) ρ = ((ev G a ρ).bind truthD).bind fun k => .ok (.bool (!k)) := (rfl)
@[simp] theorem ev_and (a b : C) : ev G (.and a b) ρ = (ev G a ρ).bind fun d => (truthD d).bind fun k => if k = true then ev G b ρ else .ok d := (rfl)
@[simp] theorem ev_or (a b : C) : ev G (.or a b) ρ = (ev G a ρ).bind fun d => (truthD d).bind fun k => if k = true then .ok d else ev G b ρ := (rfl)
@[simp] theorem ev_ite (t : T) (a b : C) : ev G (.ite t a b) ρ = (evT G t ρ).bind fun k => if k = true then ev G a ρ else ev G b ρ := (rfl)
@[simp] theorem ev_idx (a b : C) : ev G (.idx a b) ρ = (ev G a ρ).bind fun x => (ev G b ρ).bind fun y => idxD x y := (rfl)
@[simp] theorem ev_slice (a : C) (l h : Co) : ev G (.slice a l h) ρ = (ev G a ρ).bind fun x => (evO G l ρ).bind fun l => (evO G h ρ).bind fun h => sliceD x l h := (rfl)
@[simp] theorem ev_tup (es : Cs) : ev G (.tup es) ρ = (evs G es ρ).bind tupD := (rfl)
@[simp] theorem ev_lst (es : Cs) : ev G (.lst es) ρ = (evs G es ρ).bind lstD := (rfl)
@[simp] theorem ev_dct0 : ev G .dct0 ρ = .ok (.dict []) := (rfl)
@[simp] theorem ev_bi (b : Bi) (es : Cs) : ev G (.bi b es) ρ = (evs G es ρ).bind b.f := (rfl)
@[simp] theorem ev_isi (a : C) (t : String) : ev G (.isi a t) ρ = (ev G a ρ).bind fun d => .ok (.bool (isiB d t)) := (rfl)
@[simp] theorem ev_call (f : Nat) (es : Cs) : ev G (.call f es) ρ = (evs G es ρ).bind (G f) := (rfl)
@[simp] theorem ev_callB (f : Nat) (es : Cs) : ev G (.callB f es) ρ = (evs G es ρ).bind (callB (G f)) := (rfl)
@[simp] theorem ev_get2 (o k d : C) : ev G (.get2 o k d) ρ = (ev G o ρ).bind fun x => match x with
      | .dict es => (ev G k ρ).bind fun y => (ev G d ρ).bind fun z => getD2 (.dict es) y z
      | _ => .stuck := (rfl)
@[simp] theorem ev_lc (t : Tg) (it : Ci) (w : Ct) (e : C) (vs : List Nat) : ev G (.lc t it w e vs) ρ = (evI G it ρ).bind fun ds => (noxO (lcL (turnD t (evW G w) (ev G e) (wipeR ρ vs)) ds)).bind lstD := (rfl)
@[simp] theorem ev_dc (t : Tg) (it : Ci) (w : Ct) (k v : C) (vs : List Nat) : ev G (.dc t it w k v vs) ρ = (evI G it ρ).bind fun ds => (noxO (dcL (turnK t (evW G w) (ev G k) (ev G v) (wipeR ρ vs)) ds [])).bind fun es => .ok (.dict es) := (rfl)
@[simp] theorem evs_nil : evs G .nil ρ = .ok [] := (rfl)
@[simp] theorem evs_cons (c : C) (cs : Cs) : evs G (.cons c cs) ρ = (ev G c ρ).bind fun x => (evs G cs ρ).bind fun xs => .ok (x :: xs) := (rfl)
@[simp] theorem evO_no : evO G .no ρ = .ok none := (rfl)
@[simp] theorem evO_yes (c : C) : evO G (.yes c) ρ = (ev G c ρ).bind partD := (rfl)
@[simp] theorem evI_pl (c : C) : evI G (.pl c) ρ = (ev G c ρ).bind itemsD := (rfl)
@[simp] theorem evI_rg1 (c : Cs) : evI G (.rg1 c) ρ = (evs G c ρ).bind range1D := (rfl)
@[simp] theorem evI_rg2 (c : Cs) : evI G (.rg2 c) ρ = (evs G c ρ).bind range2D := (rfl)
@[simp] theorem evI_zip (c : Cs) : evI G (.zip c) ρ = (evs G c ρ).bind zipD := (rfl)
@[simp] theorem evI_enum (c : Cs) : evI G (.enum c) ρ = (evs G c ρ).bind enumD := (rfl)
@[simp] theorem evW_no : evW G .no ρ = .ok true := (rfl)
@[simp] theorem evW_yes (t : T) : evW G (.yes t) ρ = evT G t ρ := (rfl)
@[simp] theorem evT_tr (c : C) : evT G (.tr c) ρ = (ev G c ρ).bind truthD := (rfl)
@[simp] theorem evT_cmp (o : COp) (a b : C) : evT G (.cmp o a b) ρ = ((ev G a ρ).bind fun x => (ev G b ρ).bind fun y => o.f x y).bind boolD := (rfl)
@[simp] theorem evT_chain (o o' : COp) (a b c : C) : evT G (.chain o o' a b c) ρ = ((ev G a ρ).bind fun x => (ev G b ρ).bind fun y => chainD x y o.f o'.f (ev G c ρ)).bind boolD := (rfl)
@[simp] theorem evT_not (t : T) : evT G (.not t) ρ = (evT G t ρ).bind fun k => .ok (!k) := (rfl)
@[simp] theorem evT_and (a b : T) : evT G (.and a b) ρ = (evT G a ρ).bind fun k => if k = true then evT G b ρ else .ok false := (rfl)
@[simp] theorem evT_or (a b : T) : evT G (.or a b) ρ = (evT G a ρ).bind fun k => if k = true then .ok true else evT G b ρ := (rfl)
@[simp] theorem evT_ite (t a b : T) : evT G (.ite t a b) ρ = (evT G t ρ).bind fun k => if k = true then evT G a ρ else evT G b ρ := (rfl)
@[simp] theorem ex_set (i : Nat) (e : C) : ex G (.set i e) ρ = (ev G e ρ).st ρ fun d => .nx (ρ.set i (some (false, d))) := (rfl)
@[simp] theorem ex_setF (i : Nat) (e : C) : ex G (.setF i e) ρ = (ev G e ρ).st ρ fun d => .nx (ρ.set i (some (true, d))) := (rfl)
@[simp] theorem ex_asg (t : Tg) (e : C) : ex G (.asg t e) ρ = (ev G e ρ).st ρ (bindS t ρ) := (rfl)
@[simp] theorem ex_par (ts : List Tg) (es : Cs) : ex G (.par ts es) ρ = (evs G es ρ).st ρ (bindsS ts ρ) := (rfl)
@[simp] theorem ex_app (i : Nat) (e : C) : ex G (.app i e) ρ = if ownL i ρ = true then (ev G e ρ).st ρ (appD i ρ) else .stuck := (rfl)
@[simp] theorem ex_put (i : Nat) (k v : C) : ex G (.put i k v) ρ = match isOwn i ρ with
      | some _ => (ev G v ρ).st ρ fun v => (ev G k ρ).st ρ fun k => putS i ρ k v
      | none => .stuck := (rfl)
@[simp] theorem ex_aug (i : Nat) (o : Operator) (e : C) : ex G (.aug i o e) ρ = match getV ρ i with
      | .ok d => (ev G e ρ).st ρ fun y => (augD o d y).st ρ (setV i ρ)
      | _ => .stuck := (rfl)
@[simp] theorem ex_exp (e : C) : ex G (.exp e) ρ = (ev G e ρ).st ρ fun _ => .nx ρ := (rfl)
@[simp] theorem ex_ret (e : C) : ex G (.ret e) ρ = (ev G e ρ).st ρ .ret := (rfl)
@[simp] theorem ex_retN : ex G .retN ρ = .ret .none := (rfl)
@[simp] theorem ex_ite (t : T) (a b : Ss) : ex G (.ite t a b) ρ = (evT G t ρ).st ρ fun k => if k = true then exs G a ρ else exs G b ρ := (rfl)
@[simp] theorem ex_for (t : Tg) (it : Ci) (b : Ss) : ex G (.for_ t it b) ρ = (evI G it ρ).st ρ fun ds => forL t (exs G b) ds ρ := (rfl)
@[simp] theorem ex_whl (t : T) (b : Ss) : ex G (.whl t b) ρ = whileR (evT G t) (exs G b) ρ := (rfl)
@[simp] theorem ex_pass : ex G .pass ρ = .nx ρ := (rfl)
@[simp] theorem ex_brk : ex G .brk ρ = .brk ρ := (rfl)
@[simp] theorem ex_ct : ex G .ct ρ = .ct ρ := (rfl)
@[simp] theorem ex_never : ex G .never ρ = .stuck := (rfl)
@[simp] theorem ex_dem (is : List Nat) (s : S) : ex G (.dem is s) ρ = ex G s (dem is ρ) := (rfl)
@[simp] theorem exs_nil : exs G .nil ρ = .nx ρ := (rfl)
@[simp] theorem exs_cons (s : S) (ss : Ss) : exs G (.cons s ss) ρ = (ex G s ρ).seq (exs G ss) := (rfl)
@[simp] theorem dem_nil : dem [] ρ = ρ := (rfl)
@[simp] theorem dem_cons (i : Nat) (is : List Nat) : dem (i :: is) ρ = dem is (dem1 i ρ) := (rfl)
/-- by places -/
def demF : Nat → Rho → Rho
  | _, [] => []
  | 0, some (_, d) :: ρ => some (false, d) :: ρ
  | 0, none :: ρ => none :: ρ
  | i + 1, o :: ρ => o :: demF i ρ
@[simp] theorem demF_0s (b : Bool) (d : D) : demF 0 (some (b, d) :: ρ) = some (false, d) :: ρ := by simp [demF]
@[simp] theorem demF_0n : demF 0 (none :: ρ) = none :: ρ := by simp [demF]
@[simp] theorem demF_s (i : Nat) (o : Option (Bool × D)) : demF (i + 1) (o :: ρ) = o :: demF i ρ := by simp [demF]
@[simp] theorem dem1_eq (i : Nat) : dem1 i ρ = demF i ρ := by
  induction ρ generalizing i with
  | nil => simp [dem1, demF]
  | cons o ρ ih =>
    cases i with
    | zero =>
      cases o with
      | none => simp [dem1]
      | some q =>
        obtain ⟨b, d⟩ := q
        cases b <;> simp [dem1]
    | succ i =>
      have := ih i
      unfold dem1 at this ⊢
      rw [List.getElem?_cons_succ, demF_s, ← this]
      cases ρ[i]? with
      | none => rfl
      | some q =>
        cases q with
        | none => rfl
        | some q =>
          obtain ⟨b, d⟩ := q
          cases b <;> rfl
@[simp] theorem wipe_nil : wipeR ρ [] = ρ := (rfl)
@[simp] theorem wipe_cons (v : Nat) (vs : List Nat) : wipeR ρ (v :: vs) = (wipeR ρ vs).set v none := (rfl)
@[simp] theorem bindT_nm (i : Nat) (d : D) : bindT (.nm i) d ρ = some (ρ.set i (some (false, d))) := by simp [bindT]
@[simp] theorem bindT_tup (ts : List Tg) (ds : List D) : bindT (.tup ts) (.tuple ds) ρ = bindTs ts ds ρ := by simp [bindT]
@[simp] theorem bindTs_nil : bindTs [] [] ρ = some ρ := by simp [bindTs]
@[simp] theorem bindTs_cons (t : Tg) (ts : List Tg) (d : D) (ds : List D) : bindTs (t :: ts) (d :: ds) ρ = (bindT t d ρ).bind fun ρ' => bindTs ts ds ρ' := by simp [bindTs]
@[simp] theorem bindS_eq (t : Tg) (d : D) : bindS t ρ d = match bindT t d ρ with
  | some ρ' => .nx ρ'
  | none => .stuck := (rfl)
@[simp] theorem bindsS_eq (t : List Tg) (d : List D) : bindsS t ρ d = match bindTs t d ρ with
  | some ρ' => .nx ρ'
  | none => .stuck := (rfl)
@[simp] theorem forL_nil (t : Tg) (fb : Rho → SOut) : forL t fb [] ρ = .nx ρ := (rfl)
@[simp] theorem ownL_0 (ds : List D) : ownL 0 (some (true, .list ds) :: ρ) = true := (rfl)
@[simp] theorem ownL_s (i : Nat) (o : Option (Bool × D)) : ownL (i + 1) (o :: ρ) = ownL i ρ := (rfl)
@[simp] theorem isOwn_0 (d : D) : isOwn 0 (some (true, d) :: ρ) = some d := (rfl)
@[simp] theorem isOwn_s (i : Nat) (o : Option (Bool × D)) : isOwn (i + 1) (o :: ρ) = isOwn i ρ := (rfl)
theorem appD_at {i : Nat} {ds : List D} (d : D) (h : isOwn i ρ = some (.list ds)) (hz : ds.length < sizeLine) : appD i ρ d = .nx (ρ.set i (some (true, .list (ds ++ [d])))) := by
  unfold isOwn at h
  unfold appD
  split at h
  · rename_i q
    cases h
    simp only [q]
    exact if_pos hz
  · cases h
theorem putS_at {i : Nat} {d d' : D} (k v : D) (h : isOwn i ρ = some d) (hz : putD d k v = some d') : putS i ρ k v = .nx (ρ.set i (some (true, d'))) := by
  unfold isOwn at h
  unfold putS
  split at h
  · rename_i q
    cases h
    simp only [q, hz]
  · cases h
end
/-! ## loops -/
theorem lcL_ok {g : D → Out (Option D)} {h : D → Option D} : ∀ {ds : List D}, (∀ d ∈ ds, g d = .ok (h d)) → lcL g ds = .ok (ds.filterMap h)
  | [], _ => rfl
  | d :: ds, hg => by
    unfold lcL
    rw [hg d (List.mem_cons_self ..), lcL_ok (h := h) fun e he => hg e (List.mem_cons_of_mem _ he), List.filterMap_cons]
    cases h d <;> rfl
theorem lcL_map {g : D → Out (Option D)} {h : D → D} {ds : List D} (hg : ∀ d ∈ ds, g d = .ok (some (h d))) : lcL g ds = .ok (ds.map h) := by
  rw [lcL_ok (h := fun d => some (h d)) hg]
  congr 1
  induction ds with
  | nil => rfl
  | cons d ds ih =>
    rw [List.filterMap_cons, List.map_cons]
    rw [ih fun e he => hg e (List.mem_cons_of_mem _ he)]
/-- over the images of xs -/
theorem lcL_of {α : Type} {g : D → Out (Option D)} {f : α → D} {h : α → D} {xs : List α} (hg : ∀ x ∈ xs, g (f x) = .ok (some (h x))) : lcL g (xs.map f) = .ok (xs.map h) := by
  induction xs with
  | nil => rfl
  | cons x xs ih =>
    rw [List.map_cons, List.map_cons]
    unfold lcL
    rw [hg x (List.mem_cons_self ..), ih fun e he => hg e (List.mem_cons_of_mem _ he)]
    rfl
theorem lcL_ofIf {α : Type} {g : D → Out (Option D)} {f : α → D} {h : α → Option D} {xs : List α} (hg : ∀ x ∈ xs, g (f x) = .ok (h x)) : lcL g (xs.map f) = .ok (xs.filterMap h) := by
  induction xs with
  | nil => rfl
  | cons x xs ih =>
    rw [List.map_cons, List.filterMap_cons]
    unfold lcL
    rw [hg x (List.mem_cons_self ..), ih fun e he => hg e (List.mem_cons_of_mem _ he)]
    cases h x <;> rfl
@[simp] theorem noxO_ok {α : Type} (a : α) : noxO (Out.ok a) = .ok a := (rfl)
/-- a for loop with an invariant on what is left and the slots -/
theorem forL_inv {t : Tg} {fb : Rho → SOut} (Inv : List D → Rho → Prop) : ∀ {ds : List D} {ρ : Rho}, Inv ds ρ →
    (∀ d ds ρ, Inv (d :: ds) ρ → ∃ ρ1 ρ2, bindT t d ρ = some ρ1 ∧ (fb ρ1 = .nx ρ2 ∨ fb ρ1 = .ct ρ2) ∧ Inv ds ρ2) → ∃ ρ', forL t fb ds ρ = .nx ρ' ∧ Inv [] ρ'
  | [], ρ, h, _ => ⟨ρ, rfl, h⟩
  | d :: ds, ρ, h, hs => by
    obtain ⟨ρ1, ρ2, h1, h2, h3⟩ := hs d ds ρ h
    obtain ⟨ρ', h4, h5⟩ := forL_inv Inv h3 hs
    refine ⟨ρ', ?_, h5⟩
    unfold forL
    rw [h1]
    rcases h2 with h2 | h2
    · show (match fb ρ1 with
        | .nx ρ2 => forL t fb ds ρ2
        | .ct ρ2 => forL t fb ds ρ2
        | .brk ρ2 => .nx ρ2
        | .ret d => .ret d
        | .exc c fs ρ2 => .exc c fs ρ2
        | .stuck => .stuck) = _
      rw [h2]
      exact h4
    · show (match fb ρ1 with
        | .nx ρ2 => forL t fb ds ρ2
        | .ct ρ2 => forL t fb ds ρ2
        | .brk ρ2 => .nx ρ2
        | .ret d => .ret d
        | .exc c fs ρ2 => .exc c fs ρ2
        | .stuck => .stuck) = _
      rw [h2]
      exact h4
theorem forL_cons_nx {t : Tg} {fb : Rho → SOut} {d : D} {ds : List D} {ρ ρ1 ρ2 : Rho} (h1 : bindT t d ρ = some ρ1) (h2 : fb ρ1 = .nx ρ2) : forL t fb (d :: ds) ρ = forL t fb ds ρ2 := by
  rw [forL, h1]
  show (match fb ρ1 with
        | .nx ρ2 => forL t fb ds ρ2
        | .ct ρ2 => forL t fb ds ρ2
        | .brk ρ2 => .nx ρ2
        | .ret d => .ret d
        | .exc c fs ρ2 => .exc c fs ρ2
        | .stuck => .stuck) = _
  rw [h2]
theorem dcL_fold {α : Type} {g : D → Out (Option (D × D))} {f : α → D} {k : α → D} {key : α → Key} {v : α → D} : ∀ {xs : List α} {es : List (D × D)}, (∀ x ∈ xs, g (f x) = .ok (some (k x, v x)) ∧ keyOf (k x) = some (key x)) → es.length + xs.length ≤ sizeLine →
    dcL g (xs.map f) es = .ok (xs.foldl (fun es x => putE es (key x) (v x)) es)
  | [], es, _, _ => rfl
  | x :: xs, es, hg, hl => by
    rw [List.length_cons] at hl
    rw [List.map_cons, List.foldl_cons]
    unfold dcL
    obtain ⟨h1, h2⟩ := hg x (List.mem_cons_self ..)
    rw [h1, ok_bind]
    show (match keyOf (k x) with
      | some k => if es.length < sizeLine then dcL g (xs.map f) (putE es k (v x)) else .stuck
      | none => .stuck) = _
    rw [h2]
    show (if es.length < sizeLine then dcL g (xs.map f) (putE es (key x) (v x)) else .stuck) = _
    rw [if_pos (by omega)]
    exact dcL_fold (fun y hy => hg y (List.mem_cons_of_mem _ hy)) (by have := putE_length es (key x) (v x); omega)
/-- a while loop: a measure falls until the test fails -/
theorem whileR_ok {fc : Rho → Out Bool} {fb : Rho → SOut} (Inv : Rho → Prop) (μ : Rho → Nat) (Q : Rho → Prop) (hs : ∀ ρ, Inv ρ → (fc ρ = .ok false ∧ Q ρ) ∨ (fc ρ = .ok true ∧ ∃ ρ2, (fb ρ = .nx ρ2 ∨ fb ρ = .ct ρ2) ∧ Inv ρ2 ∧ μ ρ2 < μ ρ)) {ρ : Rho} (h : Inv ρ) :
    ∃ ρ', whileR fc fb ρ = .nx ρ' ∧ Q ρ' := by
  have key : ∀ n ρ, Inv ρ → μ ρ < n → ∃ ρ', whileF fc fb n ρ = .nx ρ' ∧ Q ρ' := by
    intro n
    induction n with
    | zero => exact fun ρ _ hm => absurd hm (Nat.not_lt_zero _)
    | succ n ih =>
      intro ρ hi hm
      rcases hs ρ hi with ⟨h1, h2⟩ | ⟨h1, ρ2, h2, h3, h4⟩
      · refine ⟨ρ, ?_, h2⟩
        unfold whileF
        rw [h1]
        rfl
      · obtain ⟨ρ', h5, h6⟩ := ih ρ2 h3 (by omega)
        refine ⟨ρ', ?_, h6⟩
        unfold whileF
        rw [h1]
        rcases h2 with h2 | h2
        · simp only [ok_st, if_true, h2]
          exact h5
        · simp only [ok_st, if_true, h2]
          exact h5
  obtain ⟨ρ', h1, h2⟩ := key (μ ρ + 1) ρ h (Nat.lt_succ_self _)
  exact ⟨ρ', by rw [whileR_eq (n := μ ρ + 1) (by rw [h1]; exact fun z => nomatch z), h1], h2⟩
theorem run_at {P : List (Nat × Fn)} {i : Nat} {fn : Fn} {ds : List D} (h : P.lookup i = some fn) (hl : ds.length = fn.np) (n : Nat) : run P (n + 1) i ds = (exs (run P n) fn.body (rho0 fn.nn ds)).fin := by
  unfold run
  rw [h]
  exact if_pos hl
/-! ## values -/
@[simp] theorem addD_int (i j : Int) : addD (.int i) (.int j) = .ok (.int (i + j)) := (rfl)
@[simp] theorem subD_int (i j : Int) : subD (.int i) (.int j) = .ok (.int (i - j)) := (rfl)
@[simp] theorem negD_int (i : Int) : negD (.int i) = .ok (.int (-i)) := (rfl)
@[simp] theorem f_add : BOp.f .add = addD := (rfl)
@[simp] theorem f_sub : BOp.f .sub = subD := (rfl)
@[simp] theorem f_mul : BOp.f .mul = mulD := (rfl)
@[simp] theorem f_fdiv : BOp.f .fdiv = fdivD := (rfl)
@[simp] theorem f_mod : BOp.f .mod = modD := (rfl)
@[simp] theorem f_pow : BOp.f .pow = powD := (rfl)
@[simp] theorem o_eq : COp.f .eq = eqD := (rfl)
@[simp] theorem o_ne : COp.f .ne = neD := (rfl)
@[simp] theorem o_lt : COp.f .lt = ltD := (rfl)
@[simp] theorem o_gt : COp.f .gt = gtD := (rfl)
@[simp] theorem o_le : COp.f .le = leD := (rfl)
@[simp] theorem o_ge : COp.f .ge = geD := (rfl)
@[simp] theorem o_isN : COp.f .isN = isND := (rfl)
@[simp] theorem o_notN : COp.f .notN = notND := (rfl)
@[simp] theorem o_in : COp.f .inn = inD := (rfl)
@[simp] theorem o_out : COp.f .out = notInD := (rfl)
theorem mul_small {i j : Int} (h : smallI i = true ∨ smallI j = true) : mulD (.int i) (.int j) = .ok (.int (i * j)) := by
  have : (smallI i || smallI j) = true := by simpa using h
  exact if_pos this
@[simp] theorem ltD_int (i j : Int) : ltD (.int i) (.int j) = .ok (.bool (decide (i < j))) := (rfl)
@[simp] theorem gtD_int (i j : Int) : gtD (.int i) (.int j) = .ok (.bool (decide (j < i))) := (rfl)
@[simp] theorem leD_int (i j : Int) : leD (.int i) (.int j) = .ok (.bool (decide (i ≤ j))) := (rfl)
@[simp] theorem geD_int (i j : Int) : geD (.int i) (.int j) = .ok (.bool (decide (j ≤ i))) := (rfl)
@[simp] theorem eqD_int (i j : Int) : eqD (.int i) (.int j) = .ok (.bool (i == j)) := by
  simp [eqD, fitD, PyData.eqv]
@[simp] theorem neD_int (i j : Int) : neD (.int i) (.int j) = .ok (.bool (!(i == j))) := by
  simp [neD, fitD, PyData.eqv]
@[simp] theorem truthD_bool (b : Bool) : truthD (.bool b) = .ok b := (rfl)
@[simp] theorem boolD_bool (b : Bool) : boolD (.bool b) = .ok b := (rfl)
@[simp] theorem truthD_int (i : Int) : truthD (.int i) = .ok (i != 0) := (rfl)
@[simp] theorem truthD_non : truthD .none = .ok false := (rfl)
@[simp] theorem truthD_list (ds : List D) : truthD (.list ds) = .ok (!ds.isEmpty) := (rfl)
@[simp] theorem truthD_tup (ds : List D) : truthD (.tuple ds) = .ok (!ds.isEmpty) := (rfl)
@[simp] theorem isi_int (i : Int) (c : String) : isiB (.int i) c = (c == "int" || c == "object") := (rfl)
@[simp] theorem isi_bool (i : Bool) (c : String) : isiB (.bool i) c = (c == "bool" || c == "int" || c == "object") := (rfl)
@[simp] theorem isi_str (i : Str) (c : String) : isiB (.str i) c = (c == "str" || c == "object") := (rfl)
@[simp] theorem isi_tup (i : List D) (c : String) : isiB (.tuple i) c = (c == "tuple" || c == "object") := (rfl)
@[simp] theorem isi_list (i : List D) (c : String) : isiB (.list i) c = (c == "list" || c == "object") := (rfl)
@[simp] theorem isi_dict (i : List (D × D)) (c : String) : isiB (.dict i) c = (c == "dict" || c == "object") := (rfl)
@[simp] theorem isi_non (c : String) : isiB .none c = (c == "NoneType" || c == "object") := (rfl)
@[simp] theorem items_list (ds : List D) : itemsD (.list ds) = .ok ds := (rfl)
@[simp] theorem items_tup (ds : List D) : itemsD (.tuple ds) = .ok ds := (rfl)
@[simp] theorem items_str (z : Str) : itemsD (.str z) = .ok (strItems z) := (rfl)
@[simp] theorem bf_len (d : D) : Bi.f .len [d] = lenF d := (rfl)
@[simp] theorem bf_abs (d : D) : Bi.f .abs [d] = absF d := (rfl)
@[simp] theorem bf_int (d : D) : Bi.f .int [d] = intF d := (rfl)
@[simp] theorem bf_sum (d : D) : Bi.f .sum [d] = sumF d := (rfl)
@[simp] theorem bf_all (d : D) : Bi.f .all [d] = allF d := (rfl)
@[simp] theorem bf_any (d : D) : Bi.f .any [d] = anyF d := (rfl)
@[simp] theorem bf_tuple (d : D) : Bi.f .tuple [d] = tupleF d := (rfl)
@[simp] theorem bf_list (d : D) : Bi.f .list [d] = listF d := (rfl)
@[simp] theorem bf_dict (d : D) : Bi.f .dict [d] = dictF d := (rfl)
@[simp] theorem bf_sorted (d : D) : Bi.f .sorted [d] = sortedF d := (rfl)
@[simp] theorem bf_max (d : D) : Bi.f .max [d] = maxF d := (rfl)
@[simp] theorem bf_min (d : D) : Bi.f .min [d] = minF d := (rfl)
@[simp] theorem len_list (ds : List D) : lenF (.list ds) = .ok (.int ds.length) := (rfl)
@[simp] theorem len_tup (ds : List D) : lenF (.tuple ds) = .ok (.int ds.length) := (rfl)
@[simp] theorem abs_int (i : Int) : absF (.int i) = .ok (.int (if i < 0 then -i else i)) := (rfl)
@[simp] theorem int_int (i : Int) : intF (.int i) = .ok (.int i) := (rfl)
@[simp] theorem tuple_list (ds : List D) : tupleF (.list ds) = .ok (.tuple ds) := (rfl)
@[simp] theorem tuple_tup (ds : List D) : tupleF (.tuple ds) = .ok (.tuple ds) := (rfl)
@[simp] theorem list_list (ds : List D) : listF (.list ds) = .ok (.list ds) := (rfl)
@[simp] theorem list_tup (ds : List D) : listF (.tuple ds) = .ok (.list ds) := (rfl)
@[simp] theorem sum_ints (ns : List Int) : sumF (.list (ns.map .int)) = .ok (.int ns.sum) := by
  simp [sumF, overInts, intsOf_map]
@[simp] theorem all_bls (ns : List Bool) : allF (.list (ns.map .bool)) = .ok (.bool (ns.all id)) := by
  simp [allF, overBls, blsOf_map]
@[simp] theorem any_bls (ns : List Bool) : anyF (.list (ns.map .bool)) = .ok (.bool (ns.any id)) := by
  simp [anyF, overBls, blsOf_map]
theorem tupD_ok {ds : List D} (h : ds.length ≤ sizeLine) : tupD ds = .ok (.tuple ds) := if_pos h
theorem lstD_ok {ds : List D} (h : ds.length ≤ sizeLine) : lstD ds = .ok (.list ds) := if_pos h
@[simp] theorem tupD_nil : tupD [] = .ok (.tuple []) := tupD_ok (by decide)
@[simp] theorem tupD_1 (a : D) : tupD [a] = .ok (.tuple [a]) := tupD_ok (by show 1 ≤ sizeLine; decide)
@[simp] theorem tupD_2 (a b : D) : tupD [a, b] = .ok (.tuple [a, b]) := tupD_ok (by show 2 ≤ sizeLine; decide)
@[simp] theorem tupD_3 (a b c : D) : tupD [a, b, c] = .ok (.tuple [a, b, c]) := tupD_ok (by show 3 ≤ sizeLine; decide)
@[simp] theorem lstD_nil : lstD [] = .ok (.list []) := lstD_ok (by decide)
@[simp] theorem lstD_1 (a : D) : lstD [a] = .ok (.list [a]) := lstD_ok (by show 1 ≤ sizeLine; decide)
@[simp] theorem lstD_2 (a b : D) : lstD [a, b] = .ok (.list [a, b]) := lstD_ok (by show 2 ≤ sizeLine; decide)
@[simp] theorem lstD_3 (a b c : D) : lstD [a, b, c] = .ok (.list [a, b, c]) := lstD_ok (by show 3 ≤ sizeLine; decide)
@[simp] theorem idx_t0 (a : D) (ds : List D) : idxD (.tuple (a :: ds)) (.int 0) = .ok a := by
  simp [idxD, atI, ixN]
@[simp] theorem idx_t1 (a b : D) (ds : List D) : idxD (.tuple (a :: b :: ds)) (.int 1) = .ok b := by
  have h : (1 : Int) < (ds.length : Int) + 1 + 1 := by omega
  simp [idxD, atI, ixN, h]
theorem idx_list {ds : List D} {i : Nat} {d : D} (h : ds[i]? = some d) : idxD (.list ds) (.int i) = .ok d := by
  have hi := (List.getElem?_eq_some_iff.mp h).1
  have e : ixN ds.length (i : Int) = some i := by
    unfold ixN
    simp [hi]
  simp [idxD, atI, e, h]
/-! ## dicts of ints by texts -/
def strE (es : List (Str × Int)) : List (D × D) := es.map fun p => (.str p.1, .int p.2)
def putA (es : List (Str × Int)) (k : Str) (v : Int) : List (Str × Int) := if (es.any fun p => p.1 == k) = true then es.map (fun p => if (p.1 == k) = true then (p.1, v) else p) else es ++ [(k, v)]
theorem keyOf_str (x : Str) : keyOf (.str x) = some (.inr x) := rfl
theorem put_strE (es : List (Str × Int)) (k : Str) (v : Int) : putE (strE es) (.inr k) (.int v) = strE (putA es k v) := by
  have e1 : (strE es).any (fun p => decide (keyOf p.1 = some (.inr k))) = es.any fun p => p.1 == k := by
    unfold strE
    rw [List.any_map]
    congr 1
    funext p
    simp [Function.comp, keyOf_str]
    by_cases h : p.1 = k <;> simp [h]
  unfold putE putA
  rw [e1]
  split
  · unfold strE
    rw [List.map_map, List.map_map]
    congr 1
    funext p
    simp only [Function.comp, keyOf_str]
    by_cases h : p.1 = k
    · simp [h]
    · have : ¬ (some (Sum.inr p.1) = (some (Sum.inr k) : Option Key)) := by
        intro z
        cases z
        exact h rfl
      simp [h]
  · unfold strE
    rw [List.map_append]
    rfl
theorem look_strE (es : List (Str × Int)) (k : Str) : lookE (strE es) (.inr k) = (es.lookup k).map .int := by
  induction es with
  | nil => rfl
  | cons p es ih =>
    obtain ⟨x, v⟩ := p
    unfold lookE strE at *
    rw [List.map_cons, List.find?_cons, List.lookup_cons]
    by_cases h : x = k
    · subst h
      simp [keyOf_str]
    · have h1 : (decide (keyOf (PyData.str x) = some (Sum.inr k))) = false := by
        refine decide_eq_false fun z => ?_
        rw [keyOf_str] at z
        exact h (Sum.inr.inj (Option.some.inj z))
      have h2 : (k == x) = false := by
        simp only [beq_eq_false_iff_ne]
        exact fun z => h z.symm
      rw [h1, h2]
      exact ih
theorem keys_strE (es : List (Str × Int)) : keyStrs (strE es) = some (es.map (·.1)) := by
  induction es with
  | nil => rfl
  | cons p es ih =>
    unfold strE at *
    rw [List.map_cons]
    show (keyStrs (es.map _)).map (p.1 :: ·) = _
    rw [ih]
    rfl
/-! ## loops by places -/
theorem forL_idx {t : Tg} {fb : Rho → SOut} (Inv : Nat → Rho → Prop) {ds : List D} {ρ : Rho} (h0 : Inv 0 ρ)
    (hs : ∀ k d ρ, ds[k]? = some d → Inv k ρ → ∃ ρ1 ρ2, bindT t d ρ = some ρ1 ∧ (fb ρ1 = .nx ρ2 ∨ fb ρ1 = .ct ρ2) ∧ Inv (k + 1) ρ2) : ∃ ρ', forL t fb ds ρ = .nx ρ' ∧ Inv ds.length ρ' := by
  obtain ⟨ρ', e, k, h1, h2, h3⟩ := forL_inv (t := t) (fb := fb) (fun l ρ => ∃ k, k ≤ ds.length ∧ l = ds.drop k ∧ Inv k ρ) (ds := ds) (ρ := ρ) ⟨0, Nat.zero_le _, rfl, h0⟩ fun d l ρ ⟨k, h1, h2, h3⟩ => by
    have hk : k < ds.length := by
      by_cases h : k < ds.length
      · exact h
      · rw [List.drop_eq_nil_of_le (by omega)] at h2
        cases h2
    rw [List.drop_eq_getElem_cons hk] at h2
    injection h2 with h4 h5
    obtain ⟨ρ1, ρ2, g1, g2, g3⟩ := hs k d ρ (by rw [h4]; exact List.getElem?_eq_getElem hk) h3
    exact ⟨ρ1, ρ2, g1, g2, k + 1, hk, h5, g3⟩
  refine ⟨ρ', e, ?_⟩
  have hk : ds.length ≤ k := by
    have := congrArg List.length h2
    rw [List.length_drop, List.length_nil] at this
    omega
  have : k = ds.length := by omega
  rw [← this]
  exact h3
theorem rangeI_len (lo : Int) (n : Nat) : (rangeI lo n).length = n := by simp [rangeI]
theorem rangeI_get {lo : Int} {n k : Nat} {d : D} (h : (rangeI lo n)[k]? = some d) : k < n ∧ d = .int (lo + (k : Int)) := by
  have hk := (List.getElem?_eq_some_iff.mp h).1
  rw [rangeI_len] at hk
  refine ⟨hk, ?_⟩
  unfold rangeI at h
  rw [List.getElem?_map, List.getElem?_range hk] at h
  exact (Option.some.inj h).symm
theorem forL_range {t : Tg} {fb : Rho → SOut} (Inv : Nat → Rho → Prop) {n : Nat} {ρ : Rho} (h0 : Inv 0 ρ)
    (hs : ∀ k ρ, k < n → Inv k ρ → ∃ ρ1 ρ2, bindT t (.int (k : Nat)) ρ = some ρ1 ∧ (fb ρ1 = .nx ρ2 ∨ fb ρ1 = .ct ρ2) ∧ Inv (k + 1) ρ2) : ∃ ρ', forL t fb (rangeI 0 n) ρ = .nx ρ' ∧ Inv n ρ' := by
  obtain ⟨ρ', e, h⟩ := forL_idx (t := t) (fb := fb) Inv (ds := rangeI 0 n) h0 fun k d ρ hd hi => by
    obtain ⟨h1, h2⟩ := rangeI_get hd
    rw [Int.zero_add] at h2
    subst h2
    exact hs k ρ h1 hi
  rw [rangeI_len] at h
  exact ⟨ρ', e, h⟩
theorem lcL_range {g : D → Out (Option D)} {h : Nat → D} {lo : Int} {n : Nat} (hg : ∀ k, k < n → g (.int (lo + (k : Nat))) = .ok (some (h k))) : lcL g (rangeI lo n) = .ok ((List.range n).map h) :=
  lcL_of fun k hk => hg k (List.mem_range.mp hk)
theorem idx_get {α : Type} {f : α → D} {xs : List α} {i : Int} (h0 : 0 ≤ i) (h1 : i < (xs.length : Nat)) : ∃ x ∈ xs, xs[i.toNat]? = some x ∧ idxD (.list (xs.map f)) (.int i) = .ok (f x) := by
  have hk : i.toNat < xs.length := by omega
  refine ⟨xs[i.toNat], List.getElem_mem hk, List.getElem?_eq_getElem hk, ?_⟩
  have e : ((i.toNat : Nat) : Int) = i := Int.toNat_of_nonneg h0
  have := idx_list (ds := xs.map f) (i := i.toNat) (d := f xs[i.toNat]) (by rw [List.getElem?_map, List.getElem?_eq_getElem hk]; rfl)
  rw [e] at this
  exact this
theorem idx_tup {ds : List D} {i : Nat} {d : D} (h : ds[i]? = some d) : idxD (.tuple ds) (.int i) = .ok d := by
  have hi := (List.getElem?_eq_some_iff.mp h).1
  have e : ixN ds.length (i : Int) = some i := by
    unfold ixN
    simp [hi]
  simp [idxD, atI, e, h]
theorem idx_chr {x : Str} {i : Nat} {c : Nat} (h : x.cps.toList[i]? = some c) (hz : x.length ≤ sizeLine) : idxD (.str x) (.int i) = .ok (.str ⟨#[c]⟩) := by
  have hi := (List.getElem?_eq_some_iff.mp h).1
  have e : ixN x.cps.toList.length (i : Int) = some i := by
    unfold ixN
    simp only [Array.length_toList] at hi ⊢
    simp [hi]
  simp only [idxD, if_pos hz, atI, e, Option.bind_some, h]
end Mp

namespace LQ
open PySem PySem.Spec PyProof.Rows L2
abbrev pr : PySem.Program := PySem.Challenge.pw_pathstrue_k13_whole_atoms
def top (i : Nat) : Stmt := pr.main.body.getD i (.Pass ⟨0, 0, 0, 0⟩)
def mk (id : Nat) (x : PySem.Str) (i : Nat) (ps N : List PySem.Str) (ow : List Nat) : Mp.DefM := ⟨id, ⟨(x, none), x, x, defArgs (top i), defBody (top i), defScope (top i), [], []⟩, ps, N, ow⟩
def d_ascends : Mp.DefM := mk 84 "ascends" 9 ["values"] ["values", "one", "later"] []
def d_is_name : Mp.DefM := mk 2 "is_name" 10 ["value"] ["value", "sign"] []
def d_is_integer : Mp.DefM := mk 85 "is_integer" 13 ["value"] ["value"] []
def d_is_form : Mp.DefM := mk 86 "is_form" 14 ["value"] ["value", "one"] []
def d_check_forms : Mp.DefM := mk 87 "check_forms" 15 ["forms"] ["forms", "one"] []
def d_combined : Mp.DefM := mk 92 "combined" 16 ["number", "form", "factor", "other"] ["number", "form", "factor", "other", "parts", "name", "own", "found"] [4]
def d_times : Mp.DefM := mk 95 "times" 17 ["number", "form"] ["number", "form"] []
def d_names_by : Mp.DefM := mk 100 "names_by" 18 ["form"] ["form", "name", "_factor"] []
def d_value_by : Mp.DefM := mk 102 "value_by" 19 ["form", "values"] ["form", "values", "name", "factor"] []
def d_check_there : Mp.DefM := mk 103 "check_there" 20 ["form", "values"] ["form", "values", "name"] []
def d_divisor : Mp.DefM := mk 116 "divisor" 25 ["one", "other"] ["one", "other"] []
def d_normal_of : Mp.DefM := mk 117 "normal_of" 26 ["form"] ["form", "size", "_name", "factor", "name"] []
def d_normal : Mp.DefM := mk 118 "normal" 27 ["form"] ["form"] []
def d_is_atom : Mp.DefM := mk 119 "is_atom" 28 ["value"] ["value"] []
def d_check_atom : Mp.DefM := mk 120 "check_atom" 29 ["atom"] ["atom"] []
def d_negation_of : Mp.DefM := mk 121 "negation_of" 30 ["atom"] ["atom", "away"] []
def d_negated : Mp.DefM := mk 122 "negated" 31 ["atom"] ["atom"] []
def d_is_so : Mp.DefM := mk 123 "is_so" 32 ["atom", "values"] ["atom", "values"] []
def d_is_true : Mp.DefM := mk 124 "is_true" 33 ["atom", "values"] ["atom", "values"] []
def d__law_draws : Mp.DefM := mk 17 "_law_draws" 35 ["script", "many"] ["script", "many", "draws", "seed", "cell", "number", "k"] [2]
def d__law_form : Mp.DefM := mk 109 "_law_form" 36 ["draws", "at", "names"] ["draws", "at", "names", "parts", "k", "factor"] [3]
def d__law_value : Mp.DefM := mk 110 "_law_value" 37 ["form", "values"] ["form", "values", "name", "factor"] []
def d__law_points : Mp.DefM := mk 111 "_law_points" 38 ["names", "box"] ["names", "box", "rows", "least", "greatest", "longer", "row", "value", "k"] [2, 5]
def d__law_divisor : Mp.DefM := mk 154 "_law_divisor" 39 ["numbers"] ["numbers", "found", "number", "one", "other"] []
def d_law : Mp.DefM := mk 155 "law" 40 ["script"] ["script", "draws", "turn", "names", "form", "size", "name", "factor", "atom", "away", "point", "values", "due", "told", "one"] [13]
def ms : List Mp.DefM := [d_ascends, d_is_name, d_is_integer, d_is_form, d_check_forms, d_combined, d_times, d_names_by, d_value_by, d_check_there, d_divisor, d_normal_of, d_normal, d_is_atom, d_check_atom, d_negation_of, d_negated, d_is_so, d_is_true, d__law_draws, d__law_form, d__law_value, d__law_points, d__law_divisor, d_law]
def con : List (PySem.Str × Mp.D) := [("LETTERS", (.str "abcdefghijklmnopqrstuvwxyz")), ("KEPT", (.tuple [(.str "and"), (.str "call"), (.str "claim"), (.str "else"), (.str "fun"), (.str "give"), (.str "if"), (.str "need"), (.str "not"), (.str "or"), (.str "skip"), (.str "tell"), (.str "while")])), ("MOST_NAME", (.int 8)), ("MOST_PARTS", (.int 40)), ("LEAST", (.str "least")), ("TRUE", (.tuple [(.str "least"), (.tuple [(.int 0), (.tuple [])])])), ("NEVER", (.tuple [(.str "least"), (.tuple [(.int (-1)), (.tuple [])])]))]
def fns : List (PySem.Str × Nat × Bool) := [("ascends", 84, false), ("is_name", 2, false), ("is_integer", 85, false), ("is_form", 86, false), ("check_forms", 87, false), ("combined", 92, false), ("times", 95, false), ("names_by", 100, false), ("value_by", 102, false), ("check_there", 103, false), ("divisor", 116, false), ("normal_of", 117, false), ("normal", 118, false), ("is_atom", 119, false), ("check_atom", 120, false), ("negation_of", 121, false), ("negated", 122, false), ("is_so", 123, false), ("is_true", 124, false), ("_law_draws", 17, false), ("_law_form", 109, false), ("_law_value", 110, false), ("_law_points", 111, false), ("_law_divisor", 154, false), ("law", 155, false)]
def prg : Mp.Prg := ⟨ms, con, fns⟩
end LQ
namespace LW
open PySem PySem.Spec PyProof.Rows L2
def c_ascends : Mp.Fn := ⟨1, 3,
  (.cons (.ret (.bi .all (.cons (.lc (.tup [(.nm 1), (.nm 2)]) (.zip (.cons (.varB 0) (.cons (.slice (.varB 0) (.yes (.lit (.int 1))) .no) .nil))) .no (.cmp .lt (.varB 1) (.varB 2)) [1, 2]) .nil)))
  .nil)⟩
def c_is_name : Mp.Fn := ⟨1, 2,
  (.cons (.ite (.or (.not (.tr (.isi (.varB 0) "str"))) (.or (.not (.chain .le .le (.lit (.int 1)) (.bi .len (.cons (.varB 0) .nil)) (.lit (.int 8)))) (.cmp .inn (.varB 0) (.lit (.tuple [(.str "and"), (.str "call"), (.str "claim"), (.str "else"), (.str "fun"), (.str "give"), (.str "if"), (.str "need"), (.str "not"), (.str "or"), (.str "skip"), (.str "tell"), (.str "while")])))))
  (.cons (.ret (.lit (.bool false)))
  .nil)
  .nil)
  (.cons (.ret (.bi .all (.cons (.lc (.nm 1) (.pl (.varB 0)) .no (.cmp .inn (.varB 1) (.lit (.str "abcdefghijklmnopqrstuvwxyz"))) [1]) .nil)))
  .nil))⟩
def c_is_integer : Mp.Fn := ⟨1, 1,
  (.cons (.ret (.and (.isi (.varB 0) "int") (.not (.isi (.varB 0) "bool"))))
  .nil)⟩
def c_is_form : Mp.Fn := ⟨1, 2,
  (.cons (.ite (.or (.not (.tr (.isi (.varB 0) "tuple"))) (.or (.cmp .ne (.bi .len (.cons (.varB 0) .nil)) (.lit (.int 2))) (.not (.tr (.call 85 (.cons (.idx (.varB 0) (.lit (.int 0))) .nil))))))
  (.cons (.ret (.lit (.bool false)))
  .nil)
  .nil)
  (.cons (.ite (.or (.not (.tr (.isi (.idx (.varB 0) (.lit (.int 1))) "tuple"))) (.cmp .gt (.bi .len (.cons (.idx (.varB 0) (.lit (.int 1))) .nil)) (.lit (.int 40))))
  (.cons (.ret (.lit (.bool false)))
  .nil)
  .nil)
  (.cons (.ite (.not (.tr (.bi .all (.cons (.lc (.nm 1) (.pl (.idx (.varB 0) (.lit (.int 1)))) .no (.and (.isi (.varB 1) "tuple") (.cmp .eq (.bi .len (.cons (.varB 1) .nil)) (.lit (.int 2)))) [1]) .nil))))
  (.cons (.ret (.lit (.bool false)))
  .nil)
  .nil)
  (.cons (.ite (.not (.tr (.bi .all (.cons (.lc (.nm 1) (.pl (.idx (.varB 0) (.lit (.int 1)))) .no (.and (.call 2 (.cons (.idx (.varB 1) (.lit (.int 0))) .nil)) (.and (.call 85 (.cons (.idx (.varB 1) (.lit (.int 1))) .nil)) (.cmp .ne (.idx (.varB 1) (.lit (.int 1))) (.lit (.int 0))))) [1]) .nil))))
  (.cons (.ret (.lit (.bool false)))
  .nil)
  .nil)
  (.cons (.ret (.call 84 (.cons (.lc (.nm 1) (.pl (.idx (.varB 0) (.lit (.int 1)))) .no (.idx (.varB 1) (.lit (.int 0))) [1]) .nil)))
  .nil)))))⟩
def c_check_forms : Mp.Fn := ⟨1, 2,
  (.cons (.ite (.not (.tr (.bi .all (.cons (.lc (.nm 1) (.pl (.varB 0)) .no (.call 86 (.cons (.var 1) .nil)) [1]) .nil))))
  (.cons .never
  .nil)
  .nil)
  .nil)⟩
def c_combined : Mp.Fn := ⟨4, 8,
  (.cons (.setF 4 (.dc (.tup [(.nm 5), (.nm 6)]) (.pl (.idx (.varB 1) (.lit (.int 1)))) .no (.var 5) (.bin .mul (.varB 0) (.varB 6)) [5, 6]))
  (.cons (.for_ (.tup [(.nm 5), (.nm 6)]) (.pl (.idx (.varB 3) (.lit (.int 1))))
  (.cons (.put 4 (.var 5) (.bin .add (.get2 (.varB 4) (.varB 5) (.lit (.int 0))) (.bin .mul (.varB 2) (.varB 6))))
  .nil))
  (.cons (.set 7 (.bi .tuple (.cons (.lc (.nm 5) (.pl (.bi .sorted (.cons (.varB 4) .nil))) (.yes (.cmp .ne (.idx (.varB 4) (.varB 5)) (.lit (.int 0)))) (.tup (.cons (.var 5) (.cons (.idx (.varB 4) (.varB 5)) .nil))) [5]) .nil)))
  (.cons (.ret (.tup (.cons (.bin .add (.bin .mul (.varB 0) (.idx (.varB 1) (.lit (.int 0)))) (.bin .mul (.varB 2) (.idx (.varB 3) (.lit (.int 0))))) (.cons (.var 7) .nil))))
  .nil))))⟩
def c_times : Mp.Fn := ⟨2, 2,
  (.cons (.ret (.call 92 (.cons (.var 0) (.cons (.var 1) (.cons (.lit (.int 0)) (.cons (.tup (.cons (.lit (.int 0)) (.cons (.tup .nil) .nil))) .nil))))))
  .nil)⟩
def c_names_by : Mp.Fn := ⟨1, 3,
  (.cons (.ret (.lc (.tup [(.nm 1), (.nm 2)]) (.pl (.idx (.varB 0) (.lit (.int 1)))) .no (.var 1) [1, 2]))
  .nil)⟩
def c_value_by : Mp.Fn := ⟨2, 4,
  (.cons (.ret (.bin .add (.idx (.varB 0) (.lit (.int 0))) (.bi .sum (.cons (.lc (.tup [(.nm 2), (.nm 3)]) (.pl (.idx (.varB 0) (.lit (.int 1)))) .no (.bin .mul (.varB 3) (.idx (.varB 1) (.varB 2))) [2, 3]) .nil))))
  .nil)⟩
def c_check_there : Mp.Fn := ⟨2, 3,
  (.cons (.for_ (.nm 2) (.pl (.call 100 (.cons (.var 0) .nil)))
  (.cons (.ite (.cmp .out (.varB 2) (.varB 1))
  (.cons .never
  .nil)
  .nil)
  .nil))
  .nil)⟩
def c_divisor : Mp.Fn := ⟨2, 2,
  (.cons (.par [(.nm 0), (.nm 1)] (.cons (.bi .abs (.cons (.varB 0) .nil)) (.cons (.bi .abs (.cons (.varB 1) .nil)) .nil)))
  (.cons (.whl (.cmp .gt (.varB 1) (.lit (.int 0)))
  (.cons (.par [(.nm 0), (.nm 1)] (.cons (.var 1) (.cons (.bin .mod (.varB 0) (.varB 1)) .nil)))
  .nil))
  (.cons (.ret (.var 0))
  .nil)))⟩
def c_normal_of : Mp.Fn := ⟨1, 5,
  (.cons (.set 1 (.lit (.int 0)))
  (.cons (.for_ (.tup [(.nm 2), (.nm 3)]) (.pl (.idx (.varB 0) (.lit (.int 1))))
  (.cons (.set 1 (.call 116 (.cons (.var 1) (.cons (.var 3) .nil))))
  .nil))
  (.cons (.ite (.cmp .eq (.varB 1) (.lit (.int 0)))
  (.cons (.ret (.ite (.cmp .ge (.idx (.varB 0) (.lit (.int 0))) (.lit (.int 0))) (.lit (.tuple [(.str "least"), (.tuple [(.int 0), (.tuple [])])])) (.lit (.tuple [(.str "least"), (.tuple [(.int (-1)), (.tuple [])])]))))
  .nil)
  .nil)
  (.cons (.ret (.tup (.cons (.lit (.str "least")) (.cons (.tup (.cons (.bin .fdiv (.idx (.varB 0) (.lit (.int 0))) (.varB 1)) (.cons (.bi .tuple (.cons (.lc (.tup [(.nm 4), (.nm 3)]) (.pl (.idx (.varB 0) (.lit (.int 1)))) .no (.tup (.cons (.var 4) (.cons (.bin .fdiv (.varB 3) (.varB 1)) .nil))) [4, 3]) .nil)) .nil))) .nil))))
  .nil))))⟩
def c_normal : Mp.Fn := ⟨1, 1,
  (.cons (.exp (.call 87 (.cons (.tup (.cons (.var 0) .nil)) .nil)))
  (.cons (.ret (.call 117 (.cons (.var 0) .nil)))
  .nil))⟩
def c_is_atom : Mp.Fn := ⟨1, 1,
  (.cons (.ite (.or (.not (.tr (.isi (.varB 0) "tuple"))) (.or (.cmp .ne (.bi .len (.cons (.varB 0) .nil)) (.lit (.int 2))) (.or (.not (.tr (.isi (.idx (.varB 0) (.lit (.int 0))) "str"))) (.cmp .ne (.idx (.varB 0) (.lit (.int 0))) (.lit (.str "least"))))))
  (.cons (.ret (.lit (.bool false)))
  .nil)
  .nil)
  (.cons (.ret (.call 86 (.cons (.idx (.varB 0) (.lit (.int 1))) .nil)))
  .nil))⟩
def c_check_atom : Mp.Fn := ⟨1, 1,
  (.cons (.ite (.not (.tr (.call 119 (.cons (.var 0) .nil))))
  (.cons .never
  .nil)
  .nil)
  .nil)⟩
def c_negation_of : Mp.Fn := ⟨1, 2,
  (.cons (.set 1 (.call 95 (.cons (.neg (.lit (.int 1))) (.cons (.idx (.varB 0) (.lit (.int 1))) .nil))))
  (.cons (.ret (.call 117 (.cons (.tup (.cons (.bin .sub (.idx (.varB 1) (.lit (.int 0))) (.lit (.int 1))) (.cons (.idx (.varB 1) (.lit (.int 1))) .nil))) .nil)))
  .nil))⟩
def c_negated : Mp.Fn := ⟨1, 1,
  (.cons (.exp (.call 120 (.cons (.var 0) .nil)))
  (.cons (.ret (.call 121 (.cons (.var 0) .nil)))
  .nil))⟩
def c_is_so : Mp.Fn := ⟨2, 2,
  (.cons (.ret (.cmp .ge (.call 102 (.cons (.idx (.varB 0) (.lit (.int 1))) (.cons (.var 1) .nil))) (.lit (.int 0))))
  .nil)⟩
def c_is_true : Mp.Fn := ⟨2, 2,
  (.cons (.exp (.call 120 (.cons (.var 0) .nil)))
  (.cons (.exp (.call 103 (.cons (.idx (.varB 0) (.lit (.int 1))) (.cons (.var 1) .nil))))
  (.cons (.ret (.call 123 (.cons (.var 0) (.cons (.var 1) .nil))))
  .nil)))⟩
def c__law_draws : Mp.Fn := ⟨2, 7,
  (.cons (.setF 2 (.lst .nil))
  (.cons (.set 3 (.lit (.int 7)))
  (.cons (.for_ (.nm 4) (.pl (.slice (.varB 0) .no (.yes (.lit (.int 63)))))
  (.cons (.set 5 (.bi .abs (.cons (.varB 4) .nil)))
  (.cons (.set 3 (.bin .mod (.bi .int (.cons (.bin .add (.bin .add (.bin .mul (.varB 3) (.lit (.int 48271))) (.varB 5)) (.lit (.int 11))) .nil)) (.lit (.int 2147483647))))
  (.cons (.ite (.cmp .ge (.varB 5) (.bin .pow (.lit (.int 10)) (.lit (.int 18))))
  (.cons (.for_ (.nm 6) (.rg1 (.cons (.lit (.int 60)) .nil))
  (.cons (.ite (.cmp .gt (.varB 5) (.lit (.int 0)))
  (.cons (.app 2 (.bin .mod (.bi .int (.cons (.varB 5) .nil)) (.lit (.int 1009))))
  (.cons (.set 5 (.bin .fdiv (.varB 5) (.lit (.int 1009))))
  .nil))
  .nil)
  .nil))
  .nil)
  (.cons (.app 2 (.bin .mod (.bin .fdiv (.bi .int (.cons (.bin .add (.bin .mul (.varB 3) (.lit (.int 16807))) (.lit (.int 5))) .nil)) (.lit (.int 3))) (.lit (.int 65521))))
  .nil))
  .nil))))
  (.cons (.for_ (.nm 6) (.rg1 (.cons (.var 1) .nil))
  (.cons (.ite (.cmp .lt (.bi .len (.cons (.varB 2) .nil)) (.varB 1))
  (.cons (.set 3 (.bin .mod (.bi .int (.cons (.bin .add (.bin .add (.bin .mul (.varB 3) (.lit (.int 69621))) (.varB 6)) (.lit (.int 1))) .nil)) (.lit (.int 2147483647))))
  (.cons (.app 2 (.bin .mod (.bin .fdiv (.bi .int (.cons (.varB 3) .nil)) (.lit (.int 7))) (.lit (.int 65521))))
  .nil))
  .nil)
  .nil))
  (.cons (.ret (.slice (.varB 2) .no (.yes (.varB 1))))
  .nil)))))⟩
def c__law_form : Mp.Fn := ⟨3, 6,
  (.cons (.setF 3 (.lst .nil))
  (.cons (.for_ (.nm 4) (.rg1 (.cons (.bi .len (.cons (.varB 2) .nil)) .nil))
  (.cons (.set 5 (.bin .sub (.bin .mod (.bi .int (.cons (.idx (.varB 0) (.bin .mod (.bin .add (.bin .add (.varB 1) (.lit (.int 1))) (.varB 4)) (.bi .len (.cons (.varB 0) .nil)))) .nil)) (.lit (.int 7))) (.lit (.int 3))))
  (.cons (.set 3 (.bin .add (.varB 3) (.ite (.cmp .ne (.varB 5) (.lit (.int 0))) (.lst (.cons (.tup (.cons (.idx (.varB 2) (.varB 4)) (.cons (.var 5) .nil))) .nil)) (.lst .nil))))
  .nil)))
  (.cons (.ret (.tup (.cons (.bin .sub (.bin .mod (.bi .int (.cons (.idx (.varB 0) (.bin .mod (.varB 1) (.bi .len (.cons (.varB 0) .nil)))) .nil)) (.lit (.int 19))) (.lit (.int 9))) (.cons (.bi .tuple (.cons (.bi .sorted (.cons (.varB 3) .nil)) .nil)) .nil))))
  .nil)))⟩
def c__law_value : Mp.Fn := ⟨2, 4,
  (.cons (.ret (.bin .add (.idx (.varB 0) (.lit (.int 0))) (.bi .sum (.cons (.lc (.tup [(.nm 2), (.nm 3)]) (.pl (.idx (.varB 0) (.lit (.int 1)))) .no (.bin .mul (.varB 3) (.idx (.varB 1) (.varB 2))) [2, 3]) .nil))))
  .nil)⟩
def c__law_points : Mp.Fn := ⟨2, 9,
  (.cons (.setF 2 (.lst (.cons (.tup .nil) .nil)))
  (.cons (.for_ (.tup [(.nm 3), (.nm 4)]) (.pl (.var 1))
  (.cons (.setF 5 (.lst .nil))
  (.cons (.dem [2] (.for_ (.nm 6) (.pl (.var 2))
  (.cons (.set 5 (.bin .add (.varB 5) (.lc (.nm 7) (.rg2 (.cons (.varB 3) (.cons (.bin .add (.varB 4) (.lit (.int 1))) .nil))) .no (.bin .add (.varB 6) (.tup (.cons (.var 7) .nil))) [7])))
  .nil)))
  (.cons (.dem [5] (.set 2 (.var 5)))
  .nil))))
  (.cons (.ret (.lc (.nm 6) (.pl (.varB 2)) .no (.tup (.cons (.var 6) (.cons (.bi .dict (.cons (.lc (.nm 8) (.rg1 (.cons (.bi .len (.cons (.varB 0) .nil)) .nil)) .no (.tup (.cons (.idx (.varB 0) (.varB 8)) (.cons (.idx (.varB 6) (.varB 8)) .nil))) [8]) .nil)) .nil))) [6]))
  .nil)))⟩
def c__law_divisor : Mp.Fn := ⟨1, 5,
  (.cons (.set 1 (.lit (.int 0)))
  (.cons (.for_ (.nm 2) (.pl (.var 0))
  (.cons (.par [(.nm 3), (.nm 4)] (.cons (.bi .abs (.cons (.varB 2) .nil)) (.cons (.var 1) .nil)))
  (.cons (.whl (.cmp .gt (.varB 4) (.lit (.int 0)))
  (.cons (.par [(.nm 3), (.nm 4)] (.cons (.var 4) (.cons (.bin .mod (.bi .int (.cons (.varB 3) .nil)) (.varB 4)) .nil)))
  .nil))
  (.cons (.set 1 (.var 3))
  .nil))))
  (.cons (.ret (.var 1))
  .nil)))⟩
def c_law : Mp.Fn := ⟨1, 15,
  (.cons (.set 1 (.call 17 (.cons (.var 0) (.cons (.lit (.int 80)) .nil))))
  (.cons (.ite (.or (.cmp .ne (.lit (.tuple [(.str "least"), (.tuple [(.int 0), (.tuple [])])])) (.tup (.cons (.lit (.str "least")) (.cons (.tup (.cons (.lit (.int 0)) (.cons (.tup .nil) .nil))) .nil)))) (.cmp .ne (.lit (.tuple [(.str "least"), (.tuple [(.int (-1)), (.tuple [])])])) (.tup (.cons (.lit (.str "least")) (.cons (.tup (.cons (.neg (.lit (.int 1))) (.cons (.tup .nil) .nil))) .nil)))))
  (.cons (.ret (.lit (.bool false)))
  .nil)
  .nil)
  (.cons (.for_ (.nm 2) (.rg1 (.cons (.lit (.int 8)) .nil))
  (.cons (.set 3 (.idx (.lst (.cons (.lit (.str "abc")) (.cons (.lit (.str "ab")) (.cons (.lit (.str "a")) (.cons (.lit (.str "bc")) (.cons (.lit (.str "abc")) (.cons (.lit (.str "c")) (.cons (.lit (.str "ab")) (.cons (.lit (.str "abc")) .nil))))))))) (.varB 2)))
  (.cons (.asg (.tup [(.nm 4), (.nm 5)]) (.tup (.cons (.call 109 (.cons (.var 1) (.cons (.bin .mul (.lit (.int 9)) (.varB 2)) (.cons (.var 3) .nil)))) (.cons (.bin .add (.lit (.int 1)) (.bin .mod (.bi .int (.cons (.idx (.varB 1) (.bin .add (.lit (.int 70)) (.varB 2))) .nil)) (.lit (.int 4)))) .nil))))
  (.cons (.set 4 (.tup (.cons (.bin .add (.idx (.varB 4) (.lit (.int 0))) (.bin .mod (.bi .int (.cons (.idx (.varB 1) (.varB 2)) .nil)) (.lit (.int 5)))) (.cons (.bi .tuple (.cons (.lc (.tup [(.nm 6), (.nm 7)]) (.pl (.idx (.varB 4) (.lit (.int 1)))) .no (.tup (.cons (.var 6) (.cons (.bin .mul (.varB 5) (.varB 7)) .nil))) [6, 7]) .nil)) .nil))))
  (.cons (.set 8 (.call 118 (.cons (.var 4) .nil)))
  (.cons (.ite (.or (.cmp .ne (.idx (.varB 8) (.lit (.int 0))) (.lit (.str "least"))) (.or (.not (.tr (.call 86 (.cons (.idx (.varB 8) (.lit (.int 1))) .nil)))) (.and (.cmp .gt (.bi .len (.cons (.idx (.varB 4) (.lit (.int 1))) .nil)) (.lit (.int 0))) (.cmp .ne (.call 154 (.cons (.lc (.tup [(.nm 6), (.nm 7)]) (.pl (.idx (.idx (.varB 8) (.lit (.int 1))) (.lit (.int 1)))) .no (.var 7) [6, 7]) .nil)) (.lit (.int 1))))))
  (.cons (.ret (.lit (.bool false)))
  .nil)
  .nil)
  (.cons (.ite (.or (.and (.cmp .eq (.bi .len (.cons (.idx (.varB 4) (.lit (.int 1))) .nil)) (.lit (.int 0))) (.cmp .ne (.varB 8) (.ite (.cmp .ge (.idx (.varB 4) (.lit (.int 0))) (.lit (.int 0))) (.lit (.tuple [(.str "least"), (.tuple [(.int 0), (.tuple [])])])) (.lit (.tuple [(.str "least"), (.tuple [(.int (-1)), (.tuple [])])]))))) (.cmp .ne (.call 118 (.cons (.idx (.varB 8) (.lit (.int 1))) .nil)) (.varB 8)))
  (.cons (.ret (.lit (.bool false)))
  .nil)
  .nil)
  (.cons (.set 9 (.call 122 (.cons (.tup (.cons (.lit (.str "least")) (.cons (.var 4) .nil))) .nil)))
  (.cons (.ite (.or (.cmp .ne (.call 122 (.cons (.var 8) .nil)) (.varB 9)) (.cmp .ne (.call 122 (.cons (.var 9) .nil)) (.varB 8)))
  (.cons (.ret (.lit (.bool false)))
  .nil)
  .nil)
  (.cons (.for_ (.tup [(.nm 10), (.nm 11)]) (.pl (.call 111 (.cons (.var 3) (.cons (.bin .mul (.tup (.cons (.tup (.cons (.neg (.lit (.int 4))) (.cons (.lit (.int 4)) .nil))) .nil)) (.bi .len (.cons (.varB 3) .nil))) .nil))))
  (.cons (.set 12 (.cmp .ge (.call 110 (.cons (.var 4) (.cons (.var 11) .nil))) (.lit (.int 0))))
  (.cons (.setF 13 (.lst (.cons (.call 124 (.cons (.tup (.cons (.lit (.str "least")) (.cons (.var 4) .nil))) (.cons (.var 11) .nil))) (.cons (.call 124 (.cons (.var 8) (.cons (.var 11) .nil))) (.cons (.call 124 (.cons (.var 9) (.cons (.var 11) .nil))) .nil)))))
  (.cons (.ite (.or (.cmp .ne (.varB 13) (.lst (.cons (.var 12) (.cons (.var 12) (.cons (.not (.varB 12)) .nil))))) (.not (.tr (.bi .all (.cons (.lc (.nm 14) (.pl (.varB 13)) .no (.isi (.varB 14) "bool") [14]) .nil)))))
  (.cons (.ret (.lit (.bool false)))
  .nil)
  .nil)
  .nil))))
  .nil))))))))))
  (.cons (.ite (.or (.cmp .ne (.call 118 (.cons (.tup (.cons (.lit (.int 5)) (.cons (.tup (.cons (.tup (.cons (.lit (.str "a")) (.cons (.lit (.int 3)) .nil))) (.cons (.tup (.cons (.lit (.str "b")) (.cons (.neg (.lit (.int 6))) .nil))) .nil))) .nil))) .nil)) (.tup (.cons (.lit (.str "least")) (.cons (.tup (.cons (.lit (.int 1)) (.cons (.tup (.cons (.tup (.cons (.lit (.str "a")) (.cons (.lit (.int 1)) .nil))) (.cons (.tup (.cons (.lit (.str "b")) (.cons (.neg (.lit (.int 2))) .nil))) .nil))) .nil))) .nil)))) (.cmp .ne (.call 118 (.cons (.tup (.cons (.neg (.lit (.int 5))) (.cons (.tup (.cons (.tup (.cons (.lit (.str "a")) (.cons (.lit (.int 3)) .nil))) .nil)) .nil))) .nil)) (.tup (.cons (.lit (.str "least")) (.cons (.tup (.cons (.neg (.lit (.int 2))) (.cons (.tup (.cons (.tup (.cons (.lit (.str "a")) (.cons (.lit (.int 1)) .nil))) .nil)) .nil))) .nil)))))
  (.cons (.ret (.lit (.bool false)))
  .nil)
  .nil)
  (.cons (.ret (.and (.cmp .eq (.call 122 (.cons (.tup (.cons (.lit (.str "least")) (.cons (.tup (.cons (.lit (.int 0)) (.cons (.tup (.cons (.tup (.cons (.lit (.str "a")) (.cons (.lit (.int 2)) .nil))) .nil)) .nil))) .nil))) .nil)) (.tup (.cons (.lit (.str "least")) (.cons (.tup (.cons (.neg (.lit (.int 1))) (.cons (.tup (.cons (.tup (.cons (.lit (.str "a")) (.cons (.neg (.lit (.int 1))) .nil))) .nil)) .nil))) .nil)))) (.and (.cmp .eq (.call 122 (.cons (.lit (.tuple [(.str "least"), (.tuple [(.int 0), (.tuple [])])])) .nil)) (.lit (.tuple [(.str "least"), (.tuple [(.int (-1)), (.tuple [])])]))) (.cmp .eq (.call 118 (.cons (.tup (.cons (.bin .pow (.lit (.int 10)) (.lit (.int 20))) (.cons (.tup (.cons (.tup (.cons (.lit (.str "a")) (.cons (.bin .pow (.lit (.int 10)) (.lit (.int 19))) .nil))) .nil)) .nil))) .nil)) (.tup (.cons (.lit (.str "least")) (.cons (.tup (.cons (.lit (.int 10)) (.cons (.tup (.cons (.tup (.cons (.lit (.str "a")) (.cons (.lit (.int 1)) .nil))) .nil)) .nil))) .nil)))))))
  .nil)))))⟩
def P : List (Nat × Mp.Fn) := [(84, c_ascends), (2, c_is_name), (85, c_is_integer), (86, c_is_form), (87, c_check_forms), (92, c_combined), (95, c_times), (100, c_names_by), (102, c_value_by), (103, c_check_there), (116, c_divisor), (117, c_normal_of), (118, c_normal), (119, c_is_atom), (120, c_check_atom), (121, c_negation_of), (122, c_negated), (123, c_is_so), (124, c_is_true), (17, c__law_draws), (109, c__law_form), (110, c__law_value), (111, c__law_points), (154, c__law_divisor), (155, c_law)]
theorem lk_ascends : P.lookup 84 = some c_ascends := rfl
theorem lk_is_name : P.lookup 2 = some c_is_name := rfl
theorem lk_is_integer : P.lookup 85 = some c_is_integer := rfl
theorem lk_is_form : P.lookup 86 = some c_is_form := rfl
theorem lk_check_forms : P.lookup 87 = some c_check_forms := rfl
theorem lk_combined : P.lookup 92 = some c_combined := rfl
theorem lk_times : P.lookup 95 = some c_times := rfl
theorem lk_names_by : P.lookup 100 = some c_names_by := rfl
theorem lk_value_by : P.lookup 102 = some c_value_by := rfl
theorem lk_check_there : P.lookup 103 = some c_check_there := rfl
theorem lk_divisor : P.lookup 116 = some c_divisor := rfl
theorem lk_normal_of : P.lookup 117 = some c_normal_of := rfl
theorem lk_normal : P.lookup 118 = some c_normal := rfl
theorem lk_is_atom : P.lookup 119 = some c_is_atom := rfl
theorem lk_check_atom : P.lookup 120 = some c_check_atom := rfl
theorem lk_negation_of : P.lookup 121 = some c_negation_of := rfl
theorem lk_negated : P.lookup 122 = some c_negated := rfl
theorem lk_is_so : P.lookup 123 = some c_is_so := rfl
theorem lk_is_true : P.lookup 124 = some c_is_true := rfl
theorem lk__law_draws : P.lookup 17 = some c__law_draws := rfl
theorem lk__law_form : P.lookup 109 = some c__law_form := rfl
theorem lk__law_value : P.lookup 110 = some c__law_value := rfl
theorem lk__law_points : P.lookup 111 = some c__law_points := rfl
theorem lk__law_divisor : P.lookup 154 = some c__law_divisor := rfl
theorem lk_law : P.lookup 155 = some c_law := rfl
open Mp
/-! ## forms -/
def pr (p : PySem.Str × Int) : D := .tuple [.str p.1, .int p.2]
def frm (c : Int) (ps : List (PySem.Str × Int)) : D := .tuple [.int c, .tuple (ps.map pr)]
def ltS (a b : PySem.Str) : Bool := decide (a.cps.toList < b.cps.toList)
/-- names that the program takes -/
def NmOk (x : PySem.Str) : Prop := ∀ n, run P (n + 1) 2 [.str x] = .ok (.bool true)
structure VF (ps : List (PySem.Str × Int)) : Prop where
  nm : ∀ p ∈ ps, NmOk p.1
  nz : ∀ p ∈ ps, p.2 ≠ 0
  asc : (ps.map (·.1)).Pairwise fun a b => ltS a b = true
  few : ps.length ≤ 40
theorem is_integer_run (n : Nat) (i : Int) : run P (n + 1) 85 [.int i] = .ok (.bool true) := by
  rw [run_at lk_is_integer rfl]
  simp [c_is_integer, rho0]
theorem dataLt_str (a b : PySem.Str) : PySem.W.dataLt (.str a) (.str b) = ltS a b := by
  have h1 := congrFun (congrFun (PySem.W.dataLe_str (fun x : PySem.Str => x)) b) a
  rw [PySem.W.dataLe_eq] at h1
  have h2 : (!PySem.W.dataLt (.str a) (.str b)) = decide (b.cps.toList ≤ a.cps.toList) := h1
  have h3 : PySem.W.dataLt (.str a) (.str b) = !decide (b.cps.toList ≤ a.cps.toList) := by rw [← h2, Bool.not_not]
  rw [h3]
  unfold ltS
  by_cases h : a.cps.toList < b.cps.toList
  · simp [h, Std.not_le.mpr h]
  · simp [h, Std.not_lt.mp h]
theorem ltD_str (a b : PySem.Str) : ltD (.str a) (.str b) = .ok (.bool (ltS a b)) := by
  simp [ltD, ltG, fitD, PySem.W.alike, noneD, dataLt_str]
theorem cut_tail {α : Type} (xs : List α) : Mp.cutD xs (some 1) none = xs.drop 1 := by
  unfold Mp.cutD
  cases xs with
  | nil => rfl
  | cons x xs =>
    have e : HT.sIx (x :: xs).length 0 (some 1) = 1 := by
      unfold HT.sIx
      simp
    have e2 : HT.sIx (x :: xs).length (x :: xs).length none = (x :: xs).length := by
      unfold HT.sIx
      simp
    rw [e, e2]
    simp
theorem ascends_run (n : Nat) {xs : List PySem.Str} (h : xs.Pairwise fun a b => ltS a b = true) (hz : xs.length ≤ 100) : run P (n + 1) 84 [.list (xs.map .str)] = .ok (.bool true) := by
  rw [run_at lk_ascends rfl]
  have e1 : zipI (xs.map .str) ((xs.map .str).drop 1) = ((xs.zip (xs.drop 1)).map fun q => PyData.tuple [.str q.1, .str q.2]) := by
    unfold zipI
    rw [← List.map_drop, List.zip_map, List.map_map]
    rfl
  have hp : ∀ q ∈ xs.zip (xs.drop 1), ltS q.1 q.2 = true := by
    intro q hq
    obtain ⟨i, hi⟩ := List.getElem?_of_mem hq
    obtain ⟨h1, h2⟩ := List.getElem?_zip_eq_some.mp hi
    rw [List.getElem?_drop] at h2
    have a1 := List.getElem?_eq_some_iff.mp h1
    have a2 := List.getElem?_eq_some_iff.mp h2
    obtain ⟨b1, c1⟩ := a1
    obtain ⟨b2, c2⟩ := a2
    rw [← c1, ← c2]
    exact List.pairwise_iff_getElem.mp h _ _ b1 b2 (by omega)
  simp only [c_ascends, rho0, exs_cons, ex_ret, ev_bi, evs_cons, ev_lc, evI_zip, ev_slice, evO_yes, evO_no, ev_lit, ok_bind, evs_nil, ev_varB, List.map_cons, List.map_nil, List.length_cons, List.length_nil, List.cons_append, List.nil_append, getB_0, partD, sliceD, zipD, cut_tail, e1]
  rw [lcL_of (h := fun q => PyData.bool (ltS q.1 q.2)) (fun q hq => ?_)]
  · have e2 : (xs.zip (xs.drop 1)).map (fun q => PyData.bool (ltS q.1 q.2)) = ((xs.zip (xs.drop 1)).map fun q => true).map PyData.bool := by
      rw [List.map_map]
      exact List.map_congr_left fun q hq => by simp [hp q hq]
    rw [noxO_ok, ok_bind, e2, lstD_ok (by
      rw [List.length_map, List.length_map, List.length_zip]
      have : (100 : Nat) ≤ sizeLine := by decide
      omega)]
    simp only [ok_bind, bf_all, all_bls, ok_st, ret_seq, ret_fin]
    have e3 : ((xs.zip (xs.drop 1)).map fun q => true).all id = true := by simp
    rw [e3]
  · simp [turnD, ltD_str, List.replicate]
theorem len40 {n : Nat} (h : n ≤ 40) : n ≤ sizeLine := by
  have : (40 : Nat) ≤ sizeLine := by decide
  omega
theorem lcs {xs : List D} {ys : List D} {g : D → Out (Option D)} (h : lcL g xs = .ok ys) (hl : ys.length ≤ sizeLine) : (noxO (lcL g xs)).bind lstD = .ok (.list ys) := by
  rw [h, noxO_ok, ok_bind, lstD_ok hl]
@[simp] theorem all_rep (n : Nat) : allF (.list (List.replicate n (PyData.bool true))) = .ok (.bool true) := by
  have e : List.replicate n (PyData.bool true) = (List.replicate n true).map PyData.bool := by rw [List.map_replicate]
  rw [e, all_bls]
  simp
@[simp] theorem all_map {α : Type} (xs : List α) : allF (.list (xs.map fun _ => PyData.bool true)) = .ok (.bool true) := by
  rw [List.map_const']
  exact all_rep _
theorem is_form_run (n : Nat) {c : Int} {ps : List (PySem.Str × Int)} (h : VF ps) : run P (n + 2) 86 [frm c ps] = .ok (.bool true) := by
  rw [run_at lk_is_form rfl]
  have e1 : (noxO (lcL (turnD (.nm 1) (evW (run P (n + 1)) .no) (ev (run P (n + 1)) (.and (.isi (.varB 1) "tuple") (.cmp .eq (.bi .len (.cons (.varB 1) .nil)) (.lit (.int 2))))) [some (false, .tuple [.int c, .tuple (ps.map pr)]), none]) (ps.map pr))).bind lstD = .ok (.list (ps.map fun _ => PyData.bool true)) := by
    refine lcs (lcL_of fun p hp => ?_) (by rw [List.length_map]; exact len40 h.few)
    simp [turnD, pr]
  have e2 : (noxO (lcL (turnD (.nm 1) (evW (run P (n + 1)) .no) (ev (run P (n + 1)) (.and (.call 2 (.cons (.idx (.varB 1) (.lit (.int 0))) .nil)) (.and (.call 85 (.cons (.idx (.varB 1) (.lit (.int 1))) .nil)) (.cmp .ne (.idx (.varB 1) (.lit (.int 1))) (.lit (.int 0)))))) [some (false, .tuple [.int c, .tuple (ps.map pr)]), none]) (ps.map pr))).bind lstD = .ok (.list (ps.map fun _ => PyData.bool true)) := by
    refine lcs (lcL_of fun p hp => ?_) (by rw [List.length_map]; exact len40 h.few)
    have h1 := h.nm p hp n
    have h2 := h.nz p hp
    simp [turnD, pr, h1, is_integer_run, h2]
  have e3 : (noxO (lcL (turnD (.nm 1) (evW (run P (n + 1)) .no) (ev (run P (n + 1)) (.idx (.varB 1) (.lit (.int 0)))) [some (false, .tuple [.int c, .tuple (ps.map pr)]), none]) (ps.map pr))).bind lstD = .ok (.list ((ps.map (·.1)).map .str)) := by
    rw [List.map_map]
    refine lcs (lcL_of fun p hp => ?_) (by rw [List.length_map]; exact len40 h.few)
    simp [turnD, pr]
  have hfew : ¬ ((40 : Int) < (ps.length : Int)) := by have := h.few; omega
  have asc := ascends_run n h.asc (by rw [List.length_map]; have := h.few; omega)
  simp [c_is_form, rho0, frm, is_integer_run, hfew, e1, e2, e3, -List.map_map, asc]
theorem check_forms_run (n : Nat) {c : Int} {ps : List (PySem.Str × Int)} (h : VF ps) : run P (n + 3) 87 [.tuple [frm c ps]] = .ok .none := by
  rw [run_at lk_check_forms rfl]
  have h1 := is_form_run n (c := c) h
  simp [c_check_forms, rho0, lcL, turnD, h1, consO]
  have e : allF (.list [PyData.bool true]) = .ok (.bool true) := all_rep 1
  rw [e]
  simp
theorem names_by_run (n : Nat) {c : Int} {ps : List (PySem.Str × Int)} (h : ps.length ≤ 40) : run P (n + 1) 100 [frm c ps] = .ok (.list ((ps.map (·.1)).map .str)) := by
  rw [run_at lk_names_by rfl]
  have e1 : (noxO (lcL (turnD (.tup [.nm 1, .nm 2]) (evW (run P n) .no) (ev (run P n) (.var 1)) [some (false, .tuple [.int c, .tuple (ps.map pr)]), none, none]) (ps.map pr))).bind lstD = .ok (.list ((ps.map (·.1)).map .str)) := by
    rw [List.map_map]
    refine lcs (lcL_of fun p hp => ?_) (by rw [List.length_map]; exact len40 h)
    simp [turnD, pr]
  simp [c_names_by, rho0, frm, e1, -List.map_map]
/-- values of names -/
def val (c : Int) (ps : List (PySem.Str × Int)) (v : PySem.Str → Int) : Int := c + (ps.map fun p => p.2 * v p.1).sum
/-- a dict that gives names their values -/
def Vals (es : List (PySem.Str × Int)) (v : PySem.Str → Int) (ps : List (PySem.Str × Int)) : Prop := ∀ p ∈ ps, es.lookup p.1 = some (v p.1) ∧ (smallI p.2 = true ∨ smallI (v p.1) = true)
theorem idx_str {es : List (PySem.Str × Int)} {x : PySem.Str} {v : Int} (h : es.lookup x = some v) : idxD (.dict (strE es)) (.str x) = .ok (.int v) := by
  simp [idxD, keyOf_str, look_strE, h]
theorem value_by_run (n : Nat) {c : Int} {ps es : List (PySem.Str × Int)} {v : PySem.Str → Int} (h : ps.length ≤ 40) (hv : Vals es v ps) : run P (n + 1) 102 [frm c ps, .dict (strE es)] = .ok (.int (val c ps v)) := by
  rw [run_at lk_value_by rfl]
  have e1 : (noxO (lcL (turnD (.tup [.nm 2, .nm 3]) (evW (run P n) .no) (ev (run P n) (.bin .mul (.varB 3) (.idx (.varB 1) (.varB 2)))) [some (false, .tuple [.int c, .tuple (ps.map pr)]), some (false, .dict (strE es)), none, none]) (ps.map pr))).bind lstD = .ok (.list ((ps.map fun p => p.2 * v p.1).map .int)) := by
    rw [List.map_map]
    refine lcs (lcL_of fun p hp => ?_) (by rw [List.length_map]; exact len40 h)
    obtain ⟨h1, h2⟩ := hv p hp
    simp [turnD, pr, idx_str h1, mul_small h2]
  simp [c_value_by, rho0, frm, e1, -List.map_map, val]
theorem check_there_run (n : Nat) {c : Int} {ps es : List (PySem.Str × Int)} (h : ps.length ≤ 40) (hv : ∀ p ∈ ps, (es.lookup p.1).isSome = true) : run P (n + 2) 103 [frm c ps, .dict (strE es)] = .ok .none := by
  rw [run_at lk_check_there rfl]
  have h1 := names_by_run n (c := c) h
  obtain ⟨ρ', e, _⟩ := forL_inv (t := .nm 2) (fb := exs (run P (n + 1)) (.cons (.ite (.cmp .out (.varB 2) (.varB 1)) (.cons .never .nil) .nil) .nil)) (fun ds ρ => (∃ o, ρ = [some (false, frm c ps), some (false, .dict (strE es)), o]) ∧ ∀ d ∈ ds, ∃ p ∈ ps, d = .str p.1) (ds := (ps.map (·.1)).map .str) (ρ := [some (false, frm c ps), some (false, .dict (strE es)), none])
    ⟨⟨none, rfl⟩, fun d hd => by
      rw [List.map_map] at hd
      obtain ⟨p, hp, rfl⟩ := List.mem_map.mp hd
      exact ⟨p, hp, rfl⟩⟩ (fun d ds ρ ⟨⟨o, ho⟩, hd⟩ => by
      obtain ⟨p, hp, rfl⟩ := hd d (List.mem_cons_self ..)
      subst ho
      refine ⟨_, [some (false, frm c ps), some (false, .dict (strE es)), some (false, .str p.1)], rfl, .inl ?_, ⟨_, rfl⟩, fun e he => hd e (List.mem_cons_of_mem _ he)⟩
      have h2 := hv p hp
      simp [notInD, inB, keyOf_str, look_strE, h2])
  simp [c_check_there, rho0, h1, -List.map_map, e]
/-! ## names in order -/
theorem ltS_eq (a b : PySem.Str) : ltS a b = decide (a.cps.toList < b.cps.toList) := rfl
theorem ltS_le {a b : PySem.Str} (h : ltS a b = true) : leS a b = true := by
  rw [ltS_eq] at h
  unfold leS
  simp only [decide_eq_true_eq] at *
  exact Std.le_of_lt h
theorem ltS_ne {a b : PySem.Str} (h : ltS a b = true) : a ≠ b := by
  rintro rfl
  rw [ltS_eq] at h
  simp only [decide_eq_true_eq] at h
  exact Std.lt_irrefl h
theorem sortS_id {xs : List PySem.Str} (h : xs.Pairwise fun a b => ltS a b = true) : sortS xs = xs := by
  have h2 : (sortS xs).Pairwise (fun a b => leS a b = true) := List.pairwise_mergeSort leS_trans leS_total xs
  exact (List.mergeSort_perm xs leS).eq_of_pairwise (fun a b _ _ => leS_anti a b) h2 (h.imp ltS_le)
/-! ## combined -/
def E1 (k : Int) (ps : List (PySem.Str × Int)) : List (PySem.Str × Int) := ps.foldl (fun es p => putA es p.1 (k * p.2)) []
def E2 (k f : Int) (ps qs : List (PySem.Str × Int)) : List (PySem.Str × Int) := qs.foldl (fun es q => putA es q.1 ((es.lookup q.1).getD 0 + f * q.2)) (E1 k ps)
def pick (es : List (PySem.Str × Int)) (x : PySem.Str) : Option (PySem.Str × Int) := if (es.lookup x).getD 0 = 0 then none else some (x, (es.lookup x).getD 0)
def comb (k f : Int) (ps qs : List (PySem.Str × Int)) : List (PySem.Str × Int) := (sortS ((E2 k f ps qs).map (·.1))).filterMap (pick (E2 k f ps qs))
theorem putA_length (es : List (PySem.Str × Int)) (k : PySem.Str) (v : Int) : (putA es k v).length ≤ es.length + 1 := by
  unfold putA
  split <;> simp
theorem foldl_len {α : Type} {f : List (PySem.Str × Int) → α → List (PySem.Str × Int)} (hf : ∀ es a, (f es a).length ≤ es.length + 1) : ∀ (xs : List α) (es : List (PySem.Str × Int)), (xs.foldl f es).length ≤ es.length + xs.length
  | [], es => Nat.le_refl _
  | x :: xs, es => by
    have h1 := hf es x
    have h2 := foldl_len hf xs (f es x)
    rw [List.foldl_cons, List.length_cons]
    omega
theorem foldl_strE {α : Type} {k : α → PySem.Str} {v : α → Int} : ∀ (xs : List α) (es : List (PySem.Str × Int)), xs.foldl (fun es x => putE es (.inr (k x)) (.int (v x))) (strE es) = strE (xs.foldl (fun es x => putA es (k x) (v x)) es)
  | [], es => rfl
  | x :: xs, es => by
    rw [List.foldl_cons, List.foldl_cons, put_strE]
    exact foldl_strE xs _
theorem getD2_str (es : List (PySem.Str × Int)) (x : PySem.Str) : getD2 (.dict (strE es)) (.str x) (.int 0) = .ok (.int ((es.lookup x).getD 0)) := by
  simp only [getD2, keyOf_str, look_strE]
  cases es.lookup x <;> rfl
theorem combined_run (n : Nat) {k c f d : Int} {ps qs : List (PySem.Str × Int)} (hk : smallI k = true) (hf : smallI f = true) (h1 : ps.length ≤ 40) (h2 : qs.length ≤ 20) : run P (n + 1) 92 [.int k, frm c ps, .int f, frm d qs] = .ok (frm (k * c + f * d) (comb k f ps qs)) := by
  have hl1 : (E1 k ps).length ≤ ps.length := by
    have := foldl_len (f := fun es (p : PySem.Str × Int) => putA es p.1 (k * p.2)) (fun es a => putA_length ..) ps []
    rw [List.length_nil, Nat.zero_add] at this
    exact this
  have hl2 : (E2 k f ps qs).length ≤ ps.length + qs.length := by
    have := foldl_len (f := fun es (q : PySem.Str × Int) => putA es q.1 ((es.lookup q.1).getD 0 + f * q.2)) (fun es a => putA_length ..) qs (E1 k ps)
    unfold E2
    omega
  rw [run_at lk_combined rfl]
  have e1 : noxO (dcL (turnK (.tup [.nm 5, .nm 6]) (evW (run P n) .no) (ev (run P n) (.var 5)) (ev (run P n) (.bin .mul (.varB 0) (.varB 6))) [some (false, .int k), some (false, frm c ps), some (false, .int f), some (false, frm d qs), none, none, none, none]) (ps.map pr) []) = .ok (strE (E1 k ps)) := by
    have h40 : (40 : Nat) ≤ sizeLine := by decide
    rw [dcL_fold (k := fun p : PySem.Str × Int => .str p.1) (key := fun p => .inr p.1) (v := fun p => .int (k * p.2)) (fun p hp => ⟨?_, rfl⟩) (by rw [List.length_nil]; omega)]
    · exact congrArg Out.ok (foldl_strE ps [])
    · simp [turnK, pr, mul_small (.inl hk)]
  obtain ⟨ρ', e2, o5, o6, he2⟩ := forL_inv (t := .tup [.nm 5, .nm 6]) (fb := exs (run P n) (.cons (.put 4 (.var 5) (.bin .add (.get2 (.varB 4) (.varB 5) (.lit (.int 0))) (.bin .mul (.varB 2) (.varB 6)))) .nil))
    (fun ds ρ => ∃ o5 o6 qs' es, ρ = [some (false, .int k), some (false, frm c ps), some (false, .int f), some (false, frm d qs), some (true, .dict (strE es)), o5, o6, none] ∧ ds = qs'.map pr ∧ es.length + qs'.length ≤ 60 ∧ qs'.foldl (fun es q => putA es q.1 ((es.lookup q.1).getD 0 + f * q.2)) es = E2 k f ps qs)
    (ds := qs.map pr) (ρ := [some (false, .int k), some (false, frm c ps), some (false, .int f), some (false, frm d qs), some (true, .dict (strE (E1 k ps))), none, none, none])
    ⟨none, none, qs, E1 k ps, rfl, rfl, by omega, rfl⟩ (fun dd ds ρ ⟨o5, o6, qs', es, e1, e2, e3, e4⟩ => by
      subst e1
      cases qs' with
      | nil => cases e2
      | cons q qs' =>
        rw [List.map_cons] at e2
        injection e2 with e21 e22
        subst e21 e22
        rw [List.length_cons] at e3
        refine ⟨_, _, rfl, .inl ?_, some (false, .str q.1), some (false, .int q.2), qs', putA es q.1 ((es.lookup q.1).getD 0 + f * q.2), rfl, rfl, ?_, e4⟩
        · have hz : putD (.dict (strE es)) (.str q.1) (.int ((es.lookup q.1).getD 0 + f * q.2)) = some (.dict (strE (putA es q.1 ((es.lookup q.1).getD 0 + f * q.2)))) := by
            have h60 : (60 : Nat) ≤ sizeLine := by decide
            have : (strE es).length < sizeLine := by
              unfold strE
              rw [List.length_map]
              omega
            simp only [putD, keyOf_str, if_pos this, put_strE]
          simp [getD2_str, mul_small (.inl hf)]
          rw [putS_at (d := .dict (strE es)) _ _ rfl hz]
          rfl
        · have := putA_length es q.1 ((es.lookup q.1).getD 0 + f * q.2)
          omega)
  obtain ⟨qs', es, rfl, hq, _, hE⟩ := he2
  have hqn : qs' = [] := by
    cases qs' with
    | nil => rfl
    | cons _ _ => cases hq
  subst hqn
  have hE : es = E2 k f ps qs := hE
  subst hE
  have hsort : sortedF (.dict (strE (E2 k f ps qs))) = .ok (.list ((sortS ((E2 k f ps qs).map (·.1))).map .str)) := by
    have h64 : ((E2 k f ps qs).map (·.1)).length < 64 := by rw [List.length_map]; omega
    simp only [sortedF, keys_strE, if_pos h64]
  have hlen : (comb k f ps qs).length ≤ sizeLine := by
    have h60 : (60 : Nat) ≤ sizeLine := by decide
    have := List.length_filterMap_le (pick (E2 k f ps qs)) (sortS ((E2 k f ps qs).map (·.1)))
    have h3 : (sortS ((E2 k f ps qs).map (·.1))).length = (E2 k f ps qs).length := by
      unfold sortS
      rw [List.length_mergeSort, List.length_map]
    unfold comb
    omega
  have e3 : (noxO (lcL (turnD (.nm 5) (evW (run P n) (.yes (.cmp .ne (.idx (.varB 4) (.varB 5)) (.lit (.int 0))))) (ev (run P n) (.tup (.cons (.var 5) (.cons (.idx (.varB 4) (.varB 5)) .nil)))) [some (false, .int k), some (false, frm c ps), some (false, .int f), some (false, frm d qs), some (true, .dict (strE (E2 k f ps qs))), none, o6, none]) ((sortS ((E2 k f ps qs).map (·.1))).map .str))).bind lstD = .ok (.list ((comb k f ps qs).map pr)) := by
    have q := lcL_ofIf (g := turnD (.nm 5) (evW (run P n) (.yes (.cmp .ne (.idx (.varB 4) (.varB 5)) (.lit (.int 0))))) (ev (run P n) (.tup (.cons (.var 5) (.cons (.idx (.varB 4) (.varB 5)) .nil)))) [some (false, .int k), some (false, frm c ps), some (false, .int f), some (false, frm d qs), some (true, .dict (strE (E2 k f ps qs))), none, o6, none]) (f := PyData.str) (h := fun x => (pick (E2 k f ps qs) x).map pr) (xs := sortS ((E2 k f ps qs).map (·.1))) fun x hx => by
      have hx2 : x ∈ (E2 k f ps qs).map (·.1) := (List.mergeSort_perm _ leS).mem_iff.mp hx
      obtain ⟨p, hp, rfl⟩ := List.mem_map.mp hx2
      have hs : ((E2 k f ps qs).lookup p.1).isSome = true := by
        rw [List.lookup_isSome_iff]
        exact ⟨p, hp, by simp⟩
      obtain ⟨v, hv⟩ := Option.isSome_iff_exists.mp hs
      by_cases h0 : v = 0
      · subst h0
        simp [turnD, idx_str hv, pick, hv]
      · simp [turnD, idx_str hv, pick, hv, h0, pr]
    rw [q, noxO_ok, ok_bind]
    have e4 : (sortS ((E2 k f ps qs).map (·.1))).filterMap (fun x => (pick (E2 k f ps qs) x).map pr) = (comb k f ps qs).map pr := by
      unfold comb
      rw [List.map_filterMap]
    rw [e4]
    exact lstD_ok (by rw [List.length_map]; exact hlen)
  have e1' : frm c ps = .tuple [.int c, .tuple (ps.map pr)] := rfl
  have e2' : frm d qs = .tuple [.int d, .tuple (qs.map pr)] := rfl
  simp [c_combined, rho0]
  simp only [e1', e2', idx_t0, idx_t1, items_tup, ok_bind] at *
  rw [e1]
  simp [e2, hsort, e3, mul_small (.inl hk), mul_small (.inl hf), frm, -List.map_map]
/-! ## times -/
theorem putA_new {es : List (PySem.Str × Int)} {k : PySem.Str} {v : Int} (h : ∀ p ∈ es, p.1 ≠ k) : putA es k v = es ++ [(k, v)] := by
  unfold putA
  rw [if_neg]
  simp only [Bool.not_eq_true, List.any_eq_false, beq_iff_eq]
  exact h
theorem E1_eq {k : Int} {ps : List (PySem.Str × Int)} (h : (ps.map (·.1)).Pairwise fun a b => ltS a b = true) : E1 k ps = ps.map fun p => (p.1, k * p.2) := by
  have key : ∀ (qs es : List (PySem.Str × Int)), (qs.map (·.1)).Pairwise (fun a b => ltS a b = true) → (∀ p ∈ es, ∀ q ∈ qs, p.1 ≠ q.1) → qs.foldl (fun es p => putA es p.1 (k * p.2)) es = es ++ qs.map fun p => (p.1, k * p.2) := by
    intro qs
    induction qs with
    | nil => intros; simp
    | cons q qs ih =>
      intro es hq he
      rw [List.map_cons] at hq
      obtain ⟨h1, h2⟩ := List.pairwise_cons.mp hq
      rw [List.foldl_cons, putA_new fun p hp => he p hp q (List.mem_cons_self ..), ih _ h2 fun p hp r hr => ?_]
      · simp
      · rcases List.mem_append.mp hp with hp | hp
        · exact he p hp r (List.mem_cons_of_mem _ hr)
        · rw [List.mem_singleton.mp hp]
          exact ltS_ne (h1 _ (List.mem_map.mpr ⟨r, hr, rfl⟩))
  have := key ps [] h (fun p hp => nomatch hp)
  exact this
theorem lookup_asc {ps : List (PySem.Str × Int)} (h : (ps.map (·.1)).Pairwise fun a b => ltS a b = true) : ∀ p ∈ ps, ps.lookup p.1 = some p.2 := by
  induction ps with
  | nil => exact fun p hp => nomatch hp
  | cons q ps ih =>
    rw [List.map_cons] at h
    obtain ⟨h1, h2⟩ := List.pairwise_cons.mp h
    intro p hp
    obtain ⟨qx, qv⟩ := q
    rw [List.lookup_cons]
    rcases List.mem_cons.mp hp with rfl | hp
    · simp
    · have : (p.1 == qx) = false := by
        simp only [beq_eq_false_iff_ne]
        exact fun z => ltS_ne (h1 _ (List.mem_map.mpr ⟨p, hp, rfl⟩)) z.symm
      rw [this]
      exact ih h2 p hp
def scl (k : Int) (ps : List (PySem.Str × Int)) : List (PySem.Str × Int) := ps.map fun p => (p.1, k * p.2)
theorem scl_names (k : Int) (ps : List (PySem.Str × Int)) : (scl k ps).map (·.1) = ps.map (·.1) := by
  unfold scl
  rw [List.map_map]
  rfl
theorem comb_nil {k f : Int} {ps : List (PySem.Str × Int)} (h : (ps.map (·.1)).Pairwise fun a b => ltS a b = true) (hz : ∀ p ∈ ps, k * p.2 ≠ 0) : comb k f ps [] = scl k ps := by
  have e : E2 k f ps [] = scl k ps := E1_eq h
  have h' : ((scl k ps).map (·.1)).Pairwise fun a b => ltS a b = true := by rw [scl_names]; exact h
  unfold comb
  rw [e, sortS_id h']
  have hl := lookup_asc h'
  have : ∀ (qs : List (PySem.Str × Int)), (∀ q ∈ qs, q ∈ scl k ps) → (qs.map (·.1)).filterMap (pick (scl k ps)) = qs := by
    intro qs
    induction qs with
    | nil => intro _; rfl
    | cons q qs ih =>
      intro hq
      rw [List.map_cons, List.filterMap_cons]
      have h1 := hl q (hq q (List.mem_cons_self ..))
      have h2 : q.2 ≠ 0 := by
        obtain ⟨p, hp, rfl⟩ := List.mem_map.mp (hq q (List.mem_cons_self ..))
        exact hz p hp
      have h3 : pick (scl k ps) q.1 = some q := by
        unfold pick
        rw [h1]
        simp [h2]
      rw [h3]
      show q :: _ = _
      rw [ih fun r hr => hq r (List.mem_cons_of_mem _ hr)]
  exact this _ fun q hq => hq
theorem frm0 : frm 0 [] = .tuple [.int 0, .tuple []] := rfl
theorem times_run (n : Nat) {k c : Int} {ps : List (PySem.Str × Int)} (hk : smallI k = true) (hk0 : k ≠ 0) (h : VF ps) : run P (n + 2) 95 [.int k, frm c ps] = .ok (frm (k * c) (scl k ps)) := by
  rw [run_at lk_times rfl]
  have h1 := combined_run n (c := c) (d := 0) (qs := []) (ps := ps) (f := 0) hk (by decide) h.few (by simp)
  rw [comb_nil h.asc fun p hp => Int.mul_ne_zero hk0 (h.nz p hp), frm0] at h1
  simp [c_times, rho0, h1]
/-! ## divisor -/
theorem abs_nat (a : Int) : (if a < 0 then -a else a) = (a.natAbs : Int) := by
  split <;> omega
theorem divisor_run (n : Nat) (a b : Int) : run P (n + 1) 116 [.int a, .int b] = .ok (.int (Nat.gcd a.natAbs b.natAbs : Nat)) := by
  rw [run_at lk_divisor rfl]
  obtain ⟨ρ', e, hq⟩ := whileR_ok (fc := evT (run P n) (.cmp .gt (.varB 1) (.lit (.int 0)))) (fb := exs (run P n) (.cons (.par [.nm 0, .nm 1] (.cons (.var 1) (.cons (.bin .mod (.varB 0) (.varB 1)) .nil))) .nil))
    (fun ρ => ∃ x y : Nat, ρ = [some (false, .int (x : Int)), some (false, .int (y : Int))] ∧ Nat.gcd x y = Nat.gcd a.natAbs b.natAbs)
    (fun ρ => match ρ with
      | [_, some (_, .int y)] => y.natAbs
      | _ => 0)
    (fun ρ => ∃ o, ρ = [some (false, .int (Nat.gcd a.natAbs b.natAbs : Nat)), o])
    (fun ρ ⟨x, y, e1, e2⟩ => by
      subst e1
      by_cases h : y = 0
      · subst h
        refine .inl ⟨by simp, some (false, .int 0), ?_⟩
        rw [← e2, Nat.gcd_zero_right]
        rfl
      · have hy : (0 : Int) < (y : Int) := by omega
        have hy2 : 0 < y := Nat.pos_of_ne_zero h
        refine .inr ⟨by simp [hy2], [some (false, .int (y : Int)), some (false, .int ((x % y : Nat) : Int))], .inl ?_, ⟨y, x % y, rfl, ?_⟩, ?_⟩
        · have hm : modD (.int (x : Int)) (.int (y : Int)) = .ok (.int ((x % y : Nat) : Int)) := by
            have h0 : (y : Int) ≠ 0 := by omega
            have e3 : (x : Int).fmod (y : Int) = ((x % y : Nat) : Int) := by
              rw [Int.fmod_eq_emod_of_nonneg _ (by omega)]
              rfl
            simp only [modD, if_pos h0, e3]
          simp [hm]
        · rw [← e2, Nat.gcd_comm x y]
          exact (Nat.gcd_rec y x).symm ▸ (by rw [Nat.gcd_comm])
        · show ((x % y : Nat) : Int).natAbs < (y : Int).natAbs
          have := Nat.mod_lt x (Nat.pos_of_ne_zero h)
          omega)
    (ρ := [some (false, .int (a.natAbs : Int)), some (false, .int (b.natAbs : Int))]) ⟨a.natAbs, b.natAbs, rfl, rfl⟩
  obtain ⟨o, rfl⟩ := hq
  simp [c_divisor, rho0, abs_nat]
  rw [e]
  simp
/-! ## normal forms -/
def gcdF (g : Nat) (ps : List (PySem.Str × Int)) : Nat := ps.foldl (fun g p => Nat.gcd g p.2.natAbs) g
def gcdL (ps : List (PySem.Str × Int)) : Nat := gcdF 0 ps
def quo (g : Int) (ps : List (PySem.Str × Int)) : List (PySem.Str × Int) := ps.map fun p => (p.1, p.2 / g)
def nrmC (c : Int) (ps : List (PySem.Str × Int)) : Int := if gcdL ps = 0 then (if 0 ≤ c then 0 else -1) else c / (gcdL ps : Int)
def nrmP (ps : List (PySem.Str × Int)) : List (PySem.Str × Int) := if gcdL ps = 0 then [] else quo (gcdL ps) ps
def atm (c : Int) (ps : List (PySem.Str × Int)) : D := .tuple [.str "least", frm c ps]
theorem fdiv_ok {i j : Int} (h : 0 < j) (hl : j.natAbs.log2 < 9000) : fdivD (.int i) (.int j) = .ok (.int (i / j)) := by
  show (if j ≠ 0 ∧ j.natAbs < 1073741824 then Out.ok (PyData.int (i.fdiv j)) else if 0 < j ∧ j.natAbs.log2 < 9000 then .ok (.int (i / j)) else .stuck) = _
  split
  · rw [Int.fdiv_eq_ediv_of_nonneg _ (by omega)]
  · rw [if_pos ⟨h, hl⟩]
theorem normal_of_run (n : Nat) {c : Int} {ps : List (PySem.Str × Int)} (hf : ps.length ≤ 40) (hg : (gcdL ps).log2 < 9000) : run P (n + 2) 117 [frm c ps] = .ok (atm (nrmC c ps) (nrmP ps)) := by
  rw [run_at lk_normal_of rfl]
  obtain ⟨ρ', e1, o2, o3, g, qs, he, hq, hG⟩ := forL_inv (t := .tup [.nm 2, .nm 3]) (fb := exs (run P (n + 1)) (.cons (.set 1 (.call 116 (.cons (.var 1) (.cons (.var 3) .nil)))) .nil))
    (fun ds ρ => ∃ o2 o3 g qs, ρ = [some (false, frm c ps), some (false, .int (g : Nat)), o2, o3, none] ∧ ds = qs.map pr ∧ gcdF g qs = gcdL ps)
    (ds := ps.map pr) (ρ := [some (false, frm c ps), some (false, .int (0 : Nat)), none, none, none]) ⟨none, none, 0, ps, rfl, rfl, rfl⟩ (fun dd ds ρ ⟨o2, o3, g, qs, e1, e2, e3⟩ => by
      subst e1
      cases qs with
      | nil => cases e2
      | cons q qs =>
        rw [List.map_cons] at e2
        injection e2 with e21 e22
        subst e21 e22
        refine ⟨_, _, rfl, .inl ?_, some (false, .str q.1), some (false, .int q.2), Nat.gcd g q.2.natAbs, qs, rfl, rfl, e3⟩
        have h1 := divisor_run n (g : Int) q.2
        simp [pr] at h1 ⊢
        simp [h1])
  subst he
  have hqs : qs = [] := by
    cases qs with
    | nil => rfl
    | cons _ _ => cases hq
  subst hqs
  have hG : g = gcdL ps := hG
  subst hG
  have e1' : frm c ps = .tuple [.int c, .tuple (ps.map pr)] := rfl
  have e2 : gcdL ps ≠ 0 → (noxO (lcL (turnD (.tup [.nm 4, .nm 3]) (evW (run P (n + 1)) .no) (ev (run P (n + 1)) (.tup (.cons (.var 4) (.cons (.bin .fdiv (.varB 3) (.varB 1)) .nil)))) [some (false, .tuple [.int c, .tuple (ps.map pr)]), some (false, .int (gcdL ps : Nat)), o2, none, none]) (ps.map pr))).bind lstD = .ok (.list ((quo (gcdL ps) ps).map pr)) := fun h0 => by
    unfold quo
    rw [List.map_map]
    refine lcs (lcL_of fun p hp => ?_) (by rw [List.length_map]; exact len40 hf)
    have h3 := fdiv_ok (i := p.2) (j := (gcdL ps : Int)) (by omega) (by simpa using hg)
    simp [turnD, pr, h3]
  have h5 : gcdL ps ≠ 0 → fdivD (.int c) (.int (gcdL ps : Int)) = .ok (.int (c / (gcdL ps : Int))) := fun h0 => fdiv_ok (by omega) (by simpa using hg)
  rw [e1'] at e1 ⊢
  simp only [c_normal_of, rho0, exs_cons, ex_set, ex_for, ev_lit, ok_st, nx_seq, evI_pl, ev_idx, ev_varB, List.map_cons, List.map_nil, List.length_cons, List.length_nil, List.replicate, List.cons_append, List.nil_append, getB_0, getB_s, List.set_cons_zero, List.set_cons_succ, ok_bind, idx_t0, idx_t1, items_tup]
  have e1'' := e1
  simp only [Int.ofNat_zero] at e1''
  rw [show (PyData.int 0) = PyData.int ((0 : Nat) : Int) from rfl, e1]
  unfold nrmC nrmP atm
  by_cases h0 : gcdL ps = 0
  · by_cases hc : 0 ≤ c
    · simp [h0, hc, frm]
    · simp [h0, hc, frm]
  · have h0' : ¬ ((gcdL ps : Int) = 0) := by omega
    simp [h0, h5, e2, frm]
/-! ## normal forms: what they are -/
abbrev Ps : Type := List (PySem.Str × Int)
theorem gcdF_eq : ∀ (ps : Ps) (g : Nat), gcdF g ps = Nat.gcd g (gcdL ps)
  | [], g => by simp [gcdF, gcdL]
  | p :: ps, g => by
    have h1 : gcdF g (p :: ps) = gcdF (Nat.gcd g p.2.natAbs) ps := rfl
    have h2 : gcdL (p :: ps) = gcdF (Nat.gcd 0 p.2.natAbs) ps := rfl
    rw [h1, h2, gcdF_eq ps, gcdF_eq ps, Nat.gcd_zero_left, Nat.gcd_assoc]
theorem gcdL_cons (p : PySem.Str × Int) (ps : Ps) : gcdL (p :: ps) = Nat.gcd p.2.natAbs (gcdL ps) := by
  have h2 : gcdL (p :: ps) = gcdF (Nat.gcd 0 p.2.natAbs) ps := rfl
  rw [h2, gcdF_eq, Nat.gcd_zero_left]
theorem gcdL_dvd : ∀ {ps : Ps}, ∀ p ∈ ps, (gcdL ps : Int) ∣ p.2
  | q :: ps, p, hp => by
    rw [gcdL_cons]
    rcases List.mem_cons.mp hp with rfl | hp
    · exact Int.ofNat_dvd_left.mpr (Nat.gcd_dvd_left _ _)
    · exact Int.dvd_trans (Int.ofNat_dvd.mpr (Nat.gcd_dvd_right _ _)) (gcdL_dvd p hp)
theorem gcdL_zero {ps : Ps} (hz : ∀ p ∈ ps, p.2 ≠ 0) : gcdL ps = 0 ↔ ps = [] := by
  constructor
  · intro h
    cases ps with
    | nil => rfl
    | cons p ps =>
      have := gcdL_dvd (ps := p :: ps) p (List.mem_cons_self ..)
      rw [h] at this
      exact absurd (Int.zero_dvd.mp this) (hz p (List.mem_cons_self ..))
  · rintro rfl
    rfl
theorem gcdL_le {ps : Ps} {B : Nat} (hz : ∀ p ∈ ps, p.2 ≠ 0) (hb : ∀ p ∈ ps, p.2.natAbs < B) (hB : 0 < B) : gcdL ps < B := by
  cases ps with
  | nil => exact hB
  | cons p ps =>
    have h1 := gcdL_dvd p (List.mem_cons_self (a := p) (l := ps))
    have h2 := hz p (List.mem_cons_self ..)
    have h3 := hb p (List.mem_cons_self ..)
    have h4 : gcdL (p :: ps) ∣ p.2.natAbs := Int.ofNat_dvd_left.mp h1
    have := Nat.le_of_dvd (Int.natAbs_pos.mpr h2) h4
    omega
theorem gcdL_scl (ps : Ps) : gcdL (scl (-1) ps) = gcdL ps := by
  induction ps with
  | nil => rfl
  | cons p ps ih =>
    have : scl (-1) (p :: ps) = (p.1, -1 * p.2) :: scl (-1) ps := rfl
    rw [this, gcdL_cons, gcdL_cons, ih]
    have : (-1 * p.2).natAbs = p.2.natAbs := by omega
    rw [this]
theorem gcdL_quo : ∀ {ps : Ps} {g : Nat}, 0 < g → (∀ p ∈ ps, (g : Int) ∣ p.2) → gcdL (quo g ps) * g = gcdL ps
  | [], g, _, _ => by simp [quo, gcdL, gcdF]
  | p :: ps, g, hg, hd => by
    have e : quo g (p :: ps) = (p.1, p.2 / g) :: quo g ps := rfl
    rw [e, gcdL_cons, gcdL_cons, ← gcdL_quo hg fun q hq => hd q (List.mem_cons_of_mem _ hq)]
    obtain ⟨k, hk⟩ := hd p (List.mem_cons_self ..)
    have h1 : p.2 / (g : Int) = k := by
      rw [hk]
      exact Int.mul_ediv_cancel_left _ (by omega)
    rw [h1, hk, Int.natAbs_mul, Int.natAbs_natCast, Nat.mul_comm g, Nat.gcd_mul_right]
theorem quo_one (ps : Ps) : quo 1 ps = ps := by
  unfold quo
  simp
theorem nrmP_gcd {ps : Ps} (hz : ∀ p ∈ ps, p.2 ≠ 0) : ps = [] ∨ gcdL (nrmP ps) = 1 := by
  by_cases h : gcdL ps = 0
  · exact .inl ((gcdL_zero hz).mp h)
  · refine .inr ?_
    unfold nrmP
    rw [if_neg h]
    have h1 := gcdL_quo (Nat.pos_of_ne_zero h) (gcdL_dvd (ps := ps))
    have h2 : gcdL (quo (gcdL ps) ps) * gcdL ps = 1 * gcdL ps := by rw [Nat.one_mul]; exact h1
    exact Nat.eq_of_mul_eq_mul_right (Nat.pos_of_ne_zero h) h2
theorem nrmP_names {ps : Ps} (hz : ∀ p ∈ ps, p.2 ≠ 0) : (nrmP ps).map (·.1) = ps.map (·.1) := by
  unfold nrmP
  split
  · rename_i h
    rw [(gcdL_zero hz).mp h]
  · unfold quo
    rw [List.map_map]
    rfl
theorem nrmP_nz {ps : Ps} (hz : ∀ p ∈ ps, p.2 ≠ 0) : ∀ p ∈ nrmP ps, p.2 ≠ 0 := by
  unfold nrmP
  split
  · exact fun p hp => nomatch hp
  · rename_i h
    intro p hp
    obtain ⟨q, hq, rfl⟩ := List.mem_map.mp hp
    intro h0
    have h1 := Int.ediv_mul_cancel (gcdL_dvd q hq)
    have h0 : q.2 / (gcdL ps : Int) = 0 := h0
    rw [h0, Int.zero_mul] at h1
    exact hz q hq h1.symm
theorem VF.sclN {ps : Ps} (h : VF ps) : VF (scl (-1) ps) where
  nm := fun p hp => by
    obtain ⟨q, hq, rfl⟩ := List.mem_map.mp hp
    exact h.nm q hq
  nz := fun p hp => by
    obtain ⟨q, hq, rfl⟩ := List.mem_map.mp hp
    have := h.nz q hq
    show -1 * q.2 ≠ 0
    omega
  asc := by rw [scl_names]; exact h.asc
  few := by unfold scl; rw [List.length_map]; exact h.few
theorem VF.nrm {ps : Ps} (h : VF ps) : VF (nrmP ps) where
  nm := fun p hp => by
    have : p.1 ∈ ps.map (·.1) := by
      rw [← nrmP_names h.nz]
      exact List.mem_map.mpr ⟨p, hp, rfl⟩
    obtain ⟨q, hq, e⟩ := List.mem_map.mp this
    rw [← e]
    exact h.nm q hq
  nz := nrmP_nz h.nz
  asc := by rw [nrmP_names h.nz]; exact h.asc
  few := by
    have := congrArg List.length (nrmP_names h.nz)
    rw [List.length_map, List.length_map] at this
    rw [this]
    exact h.few
/-- twice is once -/
theorem nrm_one {c : Int} {ps : Ps} (h : gcdL ps = 1) : nrmC c ps = c ∧ nrmP ps = ps := by
  unfold nrmC nrmP
  rw [h]
  exact ⟨by simp, by simp [quo_one]⟩
theorem nrm_nrm {c : Int} {ps : Ps} (hz : ∀ p ∈ ps, p.2 ≠ 0) : nrmC (nrmC c ps) (nrmP ps) = nrmC c ps ∧ nrmP (nrmP ps) = nrmP ps := by
  rcases nrmP_gcd hz with rfl | h
  · have e : gcdL ([] : Ps) = 0 := rfl
    unfold nrmC nrmP
    simp only [e, if_true]
    refine ⟨?_, trivial⟩
    split <;> simp
  · exact nrm_one h
theorem scl_scl (ps : Ps) : scl (-1) (scl (-1) ps) = ps := by
  unfold scl
  rw [List.map_map]
  have : ((fun p : PySem.Str × Int => (p.1, -1 * p.2)) ∘ fun p => (p.1, -1 * p.2)) = id := by
    funext p
    obtain ⟨x, v⟩ := p
    simp [Function.comp]
  rw [this, List.map_id]
theorem scl_quo {ps : Ps} {g : Int} (hd : ∀ p ∈ ps, g ∣ p.2) : quo g (scl (-1) ps) = scl (-1) (quo g ps) := by
  unfold quo scl
  rw [List.map_map, List.map_map]
  refine List.map_congr_left fun p hp => ?_
  obtain ⟨k, hk⟩ := hd p hp
  show (p.1, (-1 * p.2) / g) = (p.1, -1 * (p.2 / g))
  rw [hk]
  by_cases h0 : g = 0
  · subst h0; simp
  · rw [Int.mul_ediv_cancel_left _ h0, ← Int.mul_assoc, Int.mul_comm (-1) g, Int.mul_assoc, Int.mul_ediv_cancel_left _ h0]
theorem nrmP_scl {ps : Ps} : nrmP (scl (-1) ps) = scl (-1) (nrmP ps) := by
  unfold nrmP
  rw [gcdL_scl]
  split
  · rfl
  · exact scl_quo gcdL_dvd
/-- the negation of an atom -/
def negC (c : Int) (ps : Ps) : Int := nrmC (-c - 1) (scl (-1) ps)
def negP (ps : Ps) : Ps := nrmP (scl (-1) ps)
theorem div_neg1 (c : Int) {g : Int} (hg : 0 < g) : (-c - 1) / g = -(c / g) - 1 := by
  have h1 : c / g * g ≤ c := Int.ediv_mul_le c (by omega)
  have h2 : c < (c / g + 1) * g := Int.lt_ediv_add_one_mul_self c hg
  have e1 : (c / g + 1) * g = c / g * g + g := by rw [Int.add_mul, Int.one_mul]
  have e2 : (-(c / g) - 1) * g = -(c / g * g) - g := by rw [Int.sub_mul, Int.neg_mul, Int.one_mul]
  have e3 : (-(c / g) - 1 + 1) * g = -(c / g * g) := by rw [Int.sub_add_cancel, Int.neg_mul]
  refine Int.le_antisymm ?_ ?_
  · have : (-c - 1) / g < -(c / g) - 1 + 1 := Int.ediv_lt_of_lt_mul hg (by omega)
    omega
  · exact Int.le_ediv_of_mul_le hg (by omega)
theorem neg_nrm {c : Int} {ps : Ps} (hz : ∀ p ∈ ps, p.2 ≠ 0) : negC (nrmC c ps) (nrmP ps) = negC c ps ∧ negP (nrmP ps) = negP ps := by
  have hp : negP (nrmP ps) = negP ps := by
    unfold negP
    rw [nrmP_scl, nrmP_scl, (nrm_nrm (c := 0) hz).2]
  refine ⟨?_, hp⟩
  unfold negC
  rcases nrmP_gcd hz with rfl | h
  · have e : gcdL ([] : Ps) = 0 := rfl
    have e2 : nrmP ([] : Ps) = [] := rfl
    have e3 : scl (-1) ([] : Ps) = [] := rfl
    rw [e2, e3]
    unfold nrmC
    simp only [e, if_true]
    split <;> split <;> omega
  · have h1 : gcdL (scl (-1) (nrmP ps)) = 1 := by rw [gcdL_scl, h]
    rw [(nrm_one h1).1]
    by_cases h0 : gcdL ps = 0
    · have := (gcdL_zero hz).mp h0
      subst this
      cases h
    · unfold nrmC
      rw [gcdL_scl, if_neg h0, if_neg h0, div_neg1 c (by omega)]
theorem neg_neg {c : Int} {ps : Ps} (hz : ∀ p ∈ ps, p.2 ≠ 0) : negC (negC c ps) (negP ps) = nrmC c ps ∧ negP (negP ps) = nrmP ps := by
  have hz' : ∀ p ∈ scl (-1) ps, p.2 ≠ 0 := fun p hp => by
    obtain ⟨q, hq, rfl⟩ := List.mem_map.mp hp
    have := hz q hq
    show -1 * q.2 ≠ 0
    omega
  obtain ⟨h1, h2⟩ := neg_nrm (c := -c - 1) hz'
  unfold negC negP at *
  rw [scl_scl] at h1 h2
  refine ⟨?_, h2⟩
  rw [h1]
  congr 1
  omega
/-! ### what they say -/
theorem val_quo {g : Int} {ps : Ps} (v : PySem.Str → Int) (hd : ∀ p ∈ ps, g ∣ p.2) : (ps.map fun p => p.2 * v p.1).sum = g * ((quo g ps).map fun p => p.2 * v p.1).sum := by
  induction ps with
  | nil => simp [quo]
  | cons p ps ih =>
    have e : quo g (p :: ps) = (p.1, p.2 / g) :: quo g ps := rfl
    rw [e, List.map_cons, List.map_cons, List.sum_cons, List.sum_cons, ih fun q hq => hd q (List.mem_cons_of_mem _ hq), Int.mul_add]
    have := Int.mul_ediv_cancel' (hd p (List.mem_cons_self ..))
    rw [← Int.mul_assoc, this]
theorem val_nrm {c : Int} {ps : Ps} (v : PySem.Str → Int) (hz : ∀ p ∈ ps, p.2 ≠ 0) : 0 ≤ val (nrmC c ps) (nrmP ps) v ↔ 0 ≤ val c ps v := by
  unfold val
  by_cases h0 : gcdL ps = 0
  · have := (gcdL_zero hz).mp h0
    subst this
    unfold nrmC nrmP
    have e : gcdL ([] : Ps) = 0 := rfl
    simp only [e, if_true, List.map_nil, List.sum_nil, Int.add_zero]
    split <;> omega
  · have hg : (0 : Int) < (gcdL ps : Int) := by omega
    unfold nrmC nrmP
    rw [if_neg h0, if_neg h0, val_quo v (gcdL_dvd (ps := ps))]
    generalize ((quo (gcdL ps) ps).map fun p => p.2 * v p.1).sum = t
    constructor
    · intro h
      have h1 : -t ≤ c / (gcdL ps : Int) := by omega
      have h2 := Int.mul_le_of_le_ediv hg h1
      have e : -t * (gcdL ps : Int) = -((gcdL ps : Int) * t) := by rw [Int.neg_mul, Int.mul_comm]
      omega
    · intro h
      have e : -t * (gcdL ps : Int) = -((gcdL ps : Int) * t) := by rw [Int.neg_mul, Int.mul_comm]
      have h1 : -t ≤ c / (gcdL ps : Int) := Int.le_ediv_of_mul_le hg (by omega)
      omega
theorem val_scl {c : Int} {ps : Ps} (v : PySem.Str → Int) : val (-c - 1) (scl (-1) ps) v = -val c ps v - 1 := by
  unfold val
  have : ((scl (-1) ps).map fun p => p.2 * v p.1).sum = -(ps.map fun p => p.2 * v p.1).sum := by
    induction ps with
    | nil => rfl
    | cons p ps ih =>
      have e : scl (-1) (p :: ps) = (p.1, -1 * p.2) :: scl (-1) ps := rfl
      rw [e, List.map_cons, List.map_cons, List.sum_cons, List.sum_cons, ih, Int.neg_add, Int.mul_assoc, Int.neg_mul, Int.one_mul]
  rw [this]
  omega
theorem val_neg {c : Int} {ps : Ps} (v : PySem.Str → Int) (hz : ∀ p ∈ ps, p.2 ≠ 0) : 0 ≤ val (negC c ps) (negP ps) v ↔ ¬ 0 ≤ val c ps v := by
  have hz' : ∀ p ∈ scl (-1) ps, p.2 ≠ 0 := fun p hp => by
    obtain ⟨q, hq, rfl⟩ := List.mem_map.mp hp
    have := hz q hq
    show -1 * q.2 ≠ 0
    omega
  unfold negC negP
  rw [val_nrm v hz', val_scl]
  omega
/-! ## atoms -/
/-- factors that are not too large -/
def Sm (ps : Ps) : Prop := ∀ p ∈ ps, p.2.natAbs < 2 ^ 64
theorem Sm.log {ps : Ps} (h : Sm ps) (hz : ∀ p ∈ ps, p.2 ≠ 0) : (gcdL ps).log2 < 9000 := by
  have h1 := gcdL_le hz h (by decide)
  by_cases h0 : gcdL ps = 0
  · rw [h0]
    decide
  · have := (Nat.log2_lt h0).mpr h1
    omega
theorem Sm.scl {ps : Ps} (h : Sm ps) : Sm (scl (-1) ps) := fun p hp => by
  obtain ⟨q, hq, rfl⟩ := List.mem_map.mp hp
  have := h q hq
  show (-1 * q.2).natAbs < 2 ^ 64
  omega
theorem Sm.nrm {ps : Ps} (h : Sm ps) : Sm (nrmP ps) := by
  unfold nrmP
  split
  · exact fun p hp => nomatch hp
  · intro p hp
    obtain ⟨q, hq, rfl⟩ := List.mem_map.mp hp
    have h1 := h q hq
    have h2 : (q.2 / (gcdL ps : Int)).natAbs ≤ q.2.natAbs := Int.natAbs_ediv_le_natAbs ..
    show (q.2 / (gcdL ps : Int)).natAbs < 2 ^ 64
    omega
theorem normal_run (n : Nat) {c : Int} {ps : Ps} (h : VF ps) (s : Sm ps) : run P (n + 4) 118 [frm c ps] = .ok (atm (nrmC c ps) (nrmP ps)) := by
  rw [run_at lk_normal rfl]
  have h1 := check_forms_run n (c := c) h
  have h2 := normal_of_run (n + 1) (c := c) h.few (s.log h.nz)
  simp [c_normal, rho0, h1, h2]
theorem eqv_str (a b : PySem.Str) : PyData.eqv (.str a) (.str b) = (a == b) := by
  simp [PyData.eqv]
theorem neD_str (a b : PySem.Str) : neD (.str a) (.str b) = .ok (.bool (!(a == b))) := by
  simp [neD, fitD, eqv_str]
theorem eqD_str (a b : PySem.Str) : eqD (.str a) (.str b) = .ok (.bool (a == b)) := by
  simp [eqD, fitD, eqv_str]
theorem is_atom_run (n : Nat) {c : Int} {ps : Ps} (h : VF ps) : run P (n + 3) 119 [atm c ps] = .ok (.bool true) := by
  rw [run_at lk_is_atom rfl]
  have h1 := is_form_run n (c := c) h
  simp [c_is_atom, rho0, atm, neD_str, h1]
theorem check_atom_run (n : Nat) {c : Int} {ps : Ps} (h : VF ps) : run P (n + 4) 120 [atm c ps] = .ok .none := by
  rw [run_at lk_check_atom rfl]
  have h1 := is_atom_run n (c := c) h
  simp [c_check_atom, rho0, h1]
theorem negation_of_run (n : Nat) {c : Int} {ps : Ps} (h : VF ps) (s : Sm ps) : run P (n + 3) 121 [atm c ps] = .ok (atm (negC c ps) (negP ps)) := by
  rw [run_at lk_negation_of rfl]
  have h1 := times_run n (k := -1) (c := c) (by decide) (by decide) h
  have h2 := normal_of_run n (c := -1 * c - 1) h.sclN.few (s.scl.log h.sclN.nz)
  have e : -1 * c - 1 = -c - 1 := by omega
  rw [e] at h2
  have e3 : -1 * c = -c := by omega
  rw [e3] at h1
  have e4 : frm (-c - 1) (scl (-1) ps) = .tuple [.int (-c - 1), .tuple ((scl (-1) ps).map pr)] := rfl
  rw [e4] at h2
  simp [c_negation_of, rho0, atm, h1]
  simp [frm] at h2 ⊢
  simp [h2, negC, negP, atm, frm]
theorem negated_run (n : Nat) {c : Int} {ps : Ps} (h : VF ps) (s : Sm ps) : run P (n + 5) 122 [atm c ps] = .ok (atm (negC c ps) (negP ps)) := by
  rw [run_at lk_negated rfl]
  have h1 := check_atom_run n (c := c) h
  have h2 := negation_of_run (n + 1) (c := c) h s
  simp [c_negated, rho0, h1, h2]
theorem is_so_run (n : Nat) {c : Int} {ps es : Ps} {v : PySem.Str → Int} (h : ps.length ≤ 40) (hv : Vals es v ps) : run P (n + 2) 123 [atm c ps, .dict (strE es)] = .ok (.bool (decide (0 ≤ val c ps v))) := by
  rw [run_at lk_is_so rfl]
  have h1 := value_by_run n (c := c) h hv
  simp [c_is_so, rho0, atm, h1]
theorem is_true_run (n : Nat) {c : Int} {ps es : Ps} {v : PySem.Str → Int} (h : VF ps) (hv : Vals es v ps) : run P (n + 5) 124 [atm c ps, .dict (strE es)] = .ok (.bool (decide (0 ≤ val c ps v))) := by
  rw [run_at lk_is_true rfl]
  have h1 := check_atom_run n (c := c) h
  have h2 := check_there_run (n + 2) (c := c) (es := es) h.few fun p hp => by rw [(hv p hp).1]; rfl
  have h3 := is_so_run (n + 2) (c := c) h.few hv
  simp [c_is_true, rho0, h1, h3]
  simp [atm, h2]
  simp [atm] at h3
  exact congrArg (fun z : Out D => ((z.st _ SOut.ret).seq _).fin) h3
/-! ## the law's draws -/
theorem small_of {i : Int} (h0 : 0 ≤ i) (h : i < 2 ^ 64) : smallI i = true := by
  unfold smallI
  simp only [Bool.and_eq_true, decide_eq_true_eq]
  omega
theorem mod_pos {i j : Int} (hj : 0 < j) : modD (.int i) (.int j) = .ok (.int (i % j)) := by
  show (if j ≠ 0 then Out.ok (PyData.int (i.fmod j)) else .stuck) = _
  rw [if_pos (by omega), Int.fmod_eq_emod_of_nonneg _ (by omega)]
theorem fdiv_small {i j : Int} (h : 0 < j) (hl : j < 1073741824) : fdivD (.int i) (.int j) = .ok (.int (i / j)) := by
  show (if j ≠ 0 ∧ j.natAbs < 1073741824 then Out.ok (PyData.int (i.fdiv j)) else if 0 < j ∧ j.natAbs.log2 < 9000 then .ok (.int (i / j)) else .stuck) = _
  rw [if_pos ⟨by omega, by omega⟩, Int.fdiv_eq_ediv_of_nonneg _ (by omega)]
theorem pow_ok {i j : Int} (h : 0 ≤ j) (h1 : j ≤ 1000000) (h2 : i.natAbs < 2 ^ 64) : powD (.int i) (.int j) = .ok (.int (i ^ j.toNat)) := if_pos ⟨h, h1, h2⟩
theorem cut_to {α : Type} (xs : List α) (k : Nat) : Mp.cutD xs none (some (k : Int)) = xs.take k := by
  unfold Mp.cutD
  have e : HT.sIx xs.length 0 none = 0 := by
    unfold HT.sIx
    simp
  have e2 : HT.sIx xs.length xs.length (some (k : Int)) = min k xs.length := by
    have hk : ¬ ((k : Int) < 0) := by omega
    unfold HT.sIx
    simp [hk]
  rw [e, e2]
  simp [List.take_eq_take_min]
def nums (ds : List Int) : D := .list (ds.map .int)
theorem draws_run (n : Nat) {ns : List Int} {many : Nat} (hm : many ≤ 1000) (hl : ns.length ≤ 63) : ∃ ds : List Int, run P (n + 1) 17 [nums ns, .int (many : Nat)] = .ok (nums ds) ∧ ds.length = many ∧ ∀ d ∈ ds, 0 ≤ d := by
  have hz : (10000 : Nat) ≤ sizeLine := by decide
  obtain ⟨b1, hb1⟩ : ∃ b, b = (Ss.cons (.ite (.cmp .gt (.varB 5) (.lit (.int 0)))
    (.cons (.app 2 (.bin .mod (.bi .int (.cons (.varB 5) .nil)) (.lit (.int 1009))))
    (.cons (.set 5 (.bin .fdiv (.varB 5) (.lit (.int 1009)))) .nil)) .nil) .nil) := ⟨_, rfl⟩
  -- the digits of one large cell
  have inner : ∀ (ds : List Int) (x s : Int) (o4 o6 : Option (Bool × D)), 0 ≤ x → (∀ d ∈ ds, 0 ≤ d) → ds.length ≤ 5000 → ∃ (ds' : List Int) (x' : Int) (o6' : Option (Bool × D)),
      forL (.nm 6) (exs (run P n) b1) (rangeI 0 60) [some (false, nums ns), some (false, .int (many : Nat)), some (true, nums ds), some (false, .int s), o4, some (false, .int x), o6] =
        .nx [some (false, nums ns), some (false, .int (many : Nat)), some (true, nums ds'), some (false, .int s), o4, some (false, .int x'), o6'] ∧ 0 ≤ x' ∧ (∀ d ∈ ds', 0 ≤ d) ∧ ds'.length ≤ ds.length + 60 := by
    intro ds x s o4 o6 hx hd hlen
    obtain ⟨ρ', e, ds', x', o6', h1, h2, h3, h4⟩ := forL_inv (t := .nm 6) (fb := exs (run P n) b1)
      (fun l ρ => ∃ (ds' : List Int) (x' : Int) (o6' : Option (Bool × D)), ρ = [some (false, nums ns), some (false, .int (many : Nat)), some (true, nums ds'), some (false, .int s), o4, some (false, .int x'), o6'] ∧ 0 ≤ x' ∧ (∀ d ∈ ds', 0 ≤ d) ∧ ds'.length + l.length ≤ ds.length + 60)
      (ds := rangeI 0 60) (ρ := [some (false, nums ns), some (false, .int (many : Nat)), some (true, nums ds), some (false, .int s), o4, some (false, .int x), o6])
      ⟨ds, x, o6, rfl, hx, hd, by simp [rangeI]⟩ (fun d l ρ ⟨ds', x', o6', h1, h2, h3, h4⟩ => by
        subst h1
        rw [List.length_cons] at h4
        by_cases hp : 0 < x'
        · refine ⟨_, _, rfl, .inl ?_, ds' ++ [x' % 1009], x' / 1009, some (false, d), rfl, by omega, ?_, by rw [List.length_append, List.length_singleton]; omega⟩
          · subst hb1
            have ha := appD_at (ρ := [some (false, nums ns), some (false, .int (many : Nat)), some (true, nums ds'), some (false, .int s), o4, some (false, .int x'), some (false, d)]) (i := 2) (ds := ds'.map .int) (.int (x' % 1009)) rfl (by rw [List.length_map]; omega)
            simp [hp, mod_pos (i := x') (j := 1009) (by decide), fdiv_small (i := x') (j := 1009) (by decide) (by decide), nums]
            simp only [nums] at ha
            rw [ha]
            simp [fdiv_small (i := x') (j := 1009) (by decide) (by decide)]
          · intro d' hd'
            rcases List.mem_append.mp hd' with hd' | hd'
            · exact h3 d' hd'
            · rw [List.mem_singleton.mp hd']
              omega
        · refine ⟨_, _, rfl, .inl ?_, ds', x', some (false, d), rfl, h2, h3, by omega⟩
          subst hb1
          simp [hp])
    subst h1
    exact ⟨ds', x', o6', e, h2, h3, by simpa using h4⟩
  obtain ⟨b0, hb0⟩ : ∃ b, b = (Ss.cons (.set 5 (.bi .abs (.cons (.varB 4) .nil)))
    (.cons (.set 3 (.bin .mod (.bi .int (.cons (.bin .add (.bin .add (.bin .mul (.varB 3) (.lit (.int 48271))) (.varB 5)) (.lit (.int 11))) .nil)) (.lit (.int 2147483647))))
    (.cons (.ite (.cmp .ge (.varB 5) (.bin .pow (.lit (.int 10)) (.lit (.int 18))))
      (.cons (.for_ (.nm 6) (.rg1 (.cons (.lit (.int 60)) .nil)) b1) .nil)
      (.cons (.app 2 (.bin .mod (.bin .fdiv (.bi .int (.cons (.bin .add (.bin .mul (.varB 3) (.lit (.int 16807))) (.lit (.int 5))) .nil)) (.lit (.int 3))) (.lit (.int 65521)))) .nil)) .nil))) := ⟨_, rfl⟩
  have one : ∀ (x s : Int) (ds : List Int) (o5 o6 : Option (Bool × D)), 0 ≤ s → s < 2147483647 → (∀ d ∈ ds, 0 ≤ d) → ds.length ≤ 4000 → ∃ (ds' : List Int) (s' : Int) (o4' o5' o6' : Option (Bool × D)),
      exs (run P n) b0 [some (false, nums ns), some (false, .int (many : Nat)), some (true, nums ds), some (false, .int s), some (false, .int x), o5, o6] =
        .nx [some (false, nums ns), some (false, .int (many : Nat)), some (true, nums ds'), some (false, .int s'), o4', o5', o6'] ∧ 0 ≤ s' ∧ s' < 2147483647 ∧ (∀ d ∈ ds', 0 ≤ d) ∧ ds'.length ≤ ds.length + 60 := by
    intro x s ds o5 o6 hs0 hs1 hd hlen
    have hss := small_of hs0 (by omega)
    subst hb0
    have hm0 := mod_pos (i := s * 48271 + (if x < 0 then -x else x) + 11) (j := 2147483647) (by decide)
    obtain ⟨K, hp⟩ : ∃ K : Int, powD (.int 10) (.int 18) = .ok (.int K) := ⟨_, pow_ok (by decide) (by decide) (by decide)⟩
    generalize hs' : (s * 48271 + (if x < 0 then -x else x) + 11) % 2147483647 = s' at hm0
    have h1 : 0 ≤ s' := by omega
    have h2 : s' < 2147483647 := by omega
    have hss' := small_of h1 (by omega)
    by_cases hbig : K ≤ (if x < 0 then -x else x)
    · obtain ⟨ds', x', o6', e, h3, h4, h5⟩ := inner ds (if x < 0 then -x else x) s' (some (false, .int x)) o6 (by split <;> omega) hd (by omega)
      refine ⟨ds', s', some (false, .int x), some (false, .int x'), o6', ?_, h1, h2, h4, h5⟩
      have hr : range1D [.int 60] = .ok (rangeI 0 60) := by
        have : okR 60 = true := by decide
        simp [range1D, this]
      simp only [exs_cons, ex_set, ev_bi, evs_cons, ev_varB, evs_nil, getB_0, getB_s, ok_bind, bf_abs, abs_int, ok_st, List.set_cons_zero, List.set_cons_succ, nx_seq, ev_bin, f_mod, f_add, f_mul, ev_lit, mul_small (.inl hss), addD_int, bf_int, int_int, hm0, ex_ite, evT_cmp, o_ge, f_pow, hp, geD_int, boolD_bool]
      have hd1 : decide (K ≤ (if x < 0 then -x else x)) = true := decide_eq_true hbig
      simp only [hd1, if_true, exs_cons, ex_for, evI_rg1, evs_cons, ev_lit, evs_nil, ok_bind, hr, ok_st, e, nx_seq, exs_nil]
    · have ha := appD_at (ρ := [some (false, nums ns), some (false, .int (many : Nat)), some (true, nums ds), some (false, .int s'), some (false, .int x), some (false, .int (if x < 0 then -x else x)), o6]) (i := 2) (ds := ds.map .int) (.int ((s' * 16807 + 5) / 3 % 65521)) rfl (by rw [List.length_map]; omega)
      refine ⟨ds ++ [(s' * 16807 + 5) / 3 % 65521], s', some (false, .int x), some (false, .int (if x < 0 then -x else x)), o6, ?_, h1, h2, ?_, by rw [List.length_append, List.length_singleton]; omega⟩
      · simp only [exs_cons, ex_set, ev_bi, evs_cons, ev_varB, evs_nil, getB_0, getB_s, ok_bind, bf_abs, abs_int, ok_st, List.set_cons_zero, List.set_cons_succ, nx_seq, ev_bin, f_mod, f_add, f_mul, ev_lit, mul_small (.inl hss), addD_int, bf_int, int_int, hm0, ex_ite, evT_cmp, o_ge, f_pow, hp, geD_int, boolD_bool]
        have hd1 : decide (K ≤ (if x < 0 then -x else x)) = false := decide_eq_false hbig
        have hown : ownL 2 [some (false, nums ns), some (false, .int (many : Nat)), some (true, nums ds), some (false, .int s'), some (false, .int x), some (false, .int (if x < 0 then -x else x)), o6] = true := rfl
        simp only [hd1, Bool.false_eq_true, if_false, exs_cons, ex_app, hown, if_true, ev_bin, ev_bi, evs_cons, evs_nil, ev_varB, getB_s, getB_0, ev_lit, ok_bind, f_mod, f_fdiv, f_add, f_mul, mul_small (.inl hss'), addD_int, bf_int, int_int, fdiv_small (i := s' * 16807 + 5) (j := 3) (by decide) (by decide), mod_pos (i := (s' * 16807 + 5) / 3) (j := 65521) (by decide), ok_st, ha, nx_seq, exs_nil, List.set_cons_succ, List.set_cons_zero]
        simp [nums]
      · intro d' hd'
        rcases List.mem_append.mp hd' with hd' | hd'
        · exact hd d' hd'
        · rw [List.mem_singleton.mp hd']
          omega
  obtain ⟨ρ1, e1, ds1, s1, a4, a5, a6, hρ1, hs10, hs11, hd1, hl1⟩ := forL_inv (t := .nm 4) (fb := exs (run P n) b0)
    (fun l ρ => (∃ (ds : List Int) (s : Int) (o4 o5 o6 : Option (Bool × D)), ρ = [some (false, nums ns), some (false, .int (many : Nat)), some (true, nums ds), some (false, .int s), o4, o5, o6] ∧ 0 ≤ s ∧ s < 2147483647 ∧ (∀ d ∈ ds, 0 ≤ d) ∧ ds.length + 60 * l.length ≤ 3780 ∧ ∀ d ∈ l, ∃ i : Int, d = .int i))
    (ds := ns.map .int) (ρ := [some (false, nums ns), some (false, .int (many : Nat)), some (true, nums []), some (false, .int 7), none, none, none])
    ⟨[], 7, none, none, none, rfl, by decide, by decide, (fun d hd => nomatch hd), by rw [List.length_nil, List.length_map]; omega, fun d hd => by obtain ⟨i, _, rfl⟩ := List.mem_map.mp hd; exact ⟨i, rfl⟩⟩
    (fun d l ρ ⟨ds, s, o4, o5, o6, h1, h2, h3, h4, h5, h6⟩ => by
      subst h1
      rw [List.length_cons] at h5
      obtain ⟨i, rfl⟩ := h6 d (List.mem_cons_self ..)
      obtain ⟨ds', s', o4', o5', o6', e, g1, g2, g3, g4⟩ := one i s ds o5 o6 h2 h3 h4 (by omega)
      exact ⟨_, _, rfl, .inl e, ds', s', o4', o5', o6', rfl, g1, g2, g3, by omega, fun d hd => h6 d (List.mem_cons_of_mem _ hd)⟩)
  subst hρ1
  obtain ⟨b2, hb2⟩ : ∃ b, b = (Ss.cons (.ite (.cmp .lt (.bi .len (.cons (.varB 2) .nil)) (.varB 1))
    (.cons (.set 3 (.bin .mod (.bi .int (.cons (.bin .add (.bin .add (.bin .mul (.varB 3) (.lit (.int 69621))) (.varB 6)) (.lit (.int 1))) .nil)) (.lit (.int 2147483647))))
    (.cons (.app 2 (.bin .mod (.bin .fdiv (.bi .int (.cons (.varB 3) .nil)) (.lit (.int 7))) (.lit (.int 65521)))) .nil)) .nil) .nil) := ⟨_, rfl⟩
  obtain ⟨ρ2, e2, ds2, s2, c6, hρ2, hs20, hs21, hd2, hl2, hl3⟩ := forL_inv (t := .nm 6) (fb := exs (run P n) b2)
    (fun l ρ => (∃ (ds : List Int) (s : Int) (o6 : Option (Bool × D)), ρ = [some (false, nums ns), some (false, .int (many : Nat)), some (true, nums ds), some (false, .int s), a4, a5, o6] ∧ 0 ≤ s ∧ s < 2147483647 ∧ (∀ d ∈ ds, 0 ≤ d) ∧ ds.length + l.length ≤ 5000 ∧ many ≤ ds.length + l.length ∧ ∀ d ∈ l, ∃ i : Int, d = .int i))
    (ds := rangeI 0 many) (ρ := [some (false, nums ns), some (false, .int (many : Nat)), some (true, nums ds1), some (false, .int s1), a4, a5, a6])
    ⟨ds1, s1, a6, rfl, hs10, hs11, hd1, by simp [rangeI]; simp at hl1; omega, by simp [rangeI], fun d hd => by unfold rangeI at hd; obtain ⟨i, _, rfl⟩ := List.mem_map.mp hd; exact ⟨_, rfl⟩⟩
    (fun d l ρ ⟨ds, s, o6, h1, h2, h3, h4, h5, h6, h7⟩ => by
      subst h1
      rw [List.length_cons] at h5 h6
      obtain ⟨i, rfl⟩ := h7 d (List.mem_cons_self ..)
      have hss := small_of h2 (by omega)
      by_cases hlt : ds.length < many
      · refine ⟨_, _, rfl, .inl ?_, ds ++ [(s * 69621 + i + 1) % 2147483647 / 7 % 65521], (s * 69621 + i + 1) % 2147483647, some (false, .int i), rfl, by omega, by omega, ?_, by rw [List.length_append, List.length_singleton]; omega, by rw [List.length_append, List.length_singleton]; omega, fun d hd => h7 d (List.mem_cons_of_mem _ hd)⟩
        · subst hb2
          have ha := appD_at (ρ := [some (false, nums ns), some (false, .int (many : Nat)), some (true, nums ds), some (false, .int ((s * 69621 + i + 1) % 2147483647)), a4, a5, some (false, .int i)]) (i := 2) (ds := ds.map .int) (.int ((s * 69621 + i + 1) % 2147483647 / 7 % 65521)) rfl (by rw [List.length_map]; omega)
          have hlt' : ((ds.length : Nat) : Int) < (many : Int) := by omega
          simp [nums, hlt', hlt, mul_small (.inl hss), mod_pos (i := s * 69621 + i + 1) (j := 2147483647) (by decide), fdiv_small (i := (s * 69621 + i + 1) % 2147483647) (j := 7) (by decide) (by decide), mod_pos (i := (s * 69621 + i + 1) % 2147483647 / 7) (j := 65521) (by decide)]
          simp only [nums] at ha
          rw [ha]
          simp
        · intro d' hd'
          rcases List.mem_append.mp hd' with hd' | hd'
          · exact h4 d' hd'
          · rw [List.mem_singleton.mp hd']
            omega
      · refine ⟨_, _, rfl, .inl ?_, ds, s, some (false, .int i), rfl, h2, h3, h4, by omega, by omega, fun d hd => h7 d (List.mem_cons_of_mem _ hd)⟩
        subst hb2
        simp [nums, hlt])
  subst hρ2
  refine ⟨ds2.take many, ?_, by rw [List.length_take]; simp at hl3; omega, fun d hd => hd2 d (List.mem_of_mem_take hd)⟩
  rw [run_at lk__law_draws rfl]
  have hcut : Mp.cutD (ns.map PyData.int) none (some 63) = ns.map PyData.int := by
    have := cut_to (ns.map PyData.int) 63
    rw [show ((63 : Nat) : Int) = 63 from rfl] at this
    rw [this, List.take_of_length_le (by rw [List.length_map]; exact hl)]
  have hcut2 := cut_to (ds2.map PyData.int) many
  have hr : range1D [.int (many : Int)] = .ok (rangeI 0 many) := by
    have : okR (many : Int) = true := by
      unfold okR
      simp only [Bool.and_eq_true, decide_eq_true_eq]
      omega
    simp [range1D, this]
  subst hb0 hb2 hb1
  simp only [nums, List.map_nil] at e1 e2 ⊢
  simp -implicitDefEqProofs only [c__law_draws, rho0, List.map_cons, List.map_nil, List.length_cons, List.length_nil, List.replicate, List.cons_append, List.nil_append, exs_cons, ex_setF, ev_lst, evs_nil, ok_bind, lstD_nil, ok_st, nx_seq, List.set_cons_succ, List.set_cons_zero, ex_set, ev_lit, ex_for, evI_pl, ev_slice, ev_varB, getB_0, getB_s, evO_no, evO_yes, partD, sliceD, hcut, items_list, e1, evI_rg1, evs_cons, ev_var, getV_s, getV_0, hr, e2, ex_ret, hcut2, exs_nil, ret_seq, ret_fin]
  rw [List.map_take]
/-! ## the law's forms -/
def nmOf (c : Nat) : PySem.Str := ⟨#[c]⟩
/-- a text of names, upwards -/
structure Nms (x : PySem.Str) : Prop where
  ok : ∀ c ∈ x.cps.toList, NmOk (nmOf c)
  asc : (x.cps.toList.map nmOf).Pairwise fun a b => ltS a b = true
  few : x.length ≤ 20
theorem Nms.sz {x : PySem.Str} (h : Nms x) : x.length ≤ sizeLine := by
  have : (20 : Nat) ≤ sizeLine := by decide
  have := h.few
  omega
theorem alike_pr (p q : PySem.Str × Int) : PySem.W.alike (pr p) (pr q) = true := by
  simp [pr, PySem.W.alike, PySem.W.alikeAll]
theorem dataLt_pr {p q : PySem.Str × Int} (h : ltS p.1 q.1 = true) : PySem.W.dataLt (pr q) (pr p) = false := by
  unfold pr
  rw [PySem.W.dataLt_pair (by simp [PySem.W.alike]) (by simp [PySem.W.alike]), eqv_str]
  have h1 := ltS_ne h
  have h2 : (q.1 == p.1) = false := by
    simp only [beq_eq_false_iff_ne]
    exact fun z => h1 z.symm
  rw [h2, if_neg (by simp), dataLt_str]
  unfold ltS at *
  simp only [decide_eq_true_eq, decide_eq_false_iff_not] at *
  exact Std.not_lt.mpr (Std.le_of_lt h)
theorem sorted_pr {ps : Ps} (h : (ps.map (·.1)).Pairwise fun a b => ltS a b = true) : sortedF (.list (ps.map pr)) = .ok (.list (ps.map pr)) := by
  have e1 : fitAll dpt (ps.map pr) = true := by
    induction ps with
    | nil => rfl
    | cons p ps ih =>
      rw [List.map_cons] at h ⊢
      have := ih (List.pairwise_cons.mp h).2
      simp [fitAll, fitD, pr] at this ⊢
      exact this
  have e2 : alikeB (ps.map pr) = true := by
    unfold alikeB
    simp only [List.all_eq_true, List.mem_map]
    rintro d ⟨p, _, rfl⟩ e ⟨q, _, rfl⟩
    exact alike_pr p q
  have e3 : sortB (ps.map pr) = true := by
    unfold sortB
    have : (ps.map pr).all tupHd = true := by
      simp only [List.all_eq_true, List.mem_map]
      rintro d ⟨p, _, rfl⟩
      rfl
    rw [this]
    rfl
  have e4 : sortL (ps.map pr) = ps.map pr := by
    unfold sortL
    refine List.mergeSort_of_pairwise ?_
    rw [List.pairwise_map] at h ⊢
    refine h.imp fun {p q} hpq => ?_
    rw [PySem.W.dataLe_eq]
    simp only [id, cond_false, dataLt_pr hpq, Bool.not_false]
  simp only [sortedF]
  rw [if_pos ⟨e1, e2, e3⟩, e4]
theorem law_form_run (n : Nat) {ds : List Int} {at_ : Nat} {x : PySem.Str} (hd : 0 < ds.length) (hx : Nms x) : ∃ (c : Int) (ps : Ps), run P (n + 1) 109 [nums ds, .int (at_ : Nat), .str x] = .ok (frm c ps) ∧ VF ps ∧ (∀ p ∈ ps, -3 ≤ p.2 ∧ p.2 ≤ 3) ∧ ∀ p ∈ ps, ∃ c ∈ x.cps.toList, p.1 = nmOf c := by
  have hmod : ∀ i : Int, 0 ≤ i → ∃ d : Int, modD (.int i) (.int (ds.length : Nat)) = .ok (.int (i % (ds.length : Nat))) ∧ idxD (nums ds) (.int (i % (ds.length : Nat))) = .ok (.int d) := fun i hi => by
    have hp : (0 : Int) < (ds.length : Nat) := by omega
    obtain ⟨d, _, _, h⟩ := idx_get (f := PyData.int) (xs := ds) (i := i % (ds.length : Nat)) (Int.emod_nonneg _ (by omega)) (Int.emod_lt_of_pos _ hp)
    exact ⟨d, mod_pos hp, h⟩
  have hlx : x.cps.toList.length = x.length := by simp [PySem.Str.length]
  obtain ⟨b, hb⟩ : ∃ b, b = (Ss.cons (.set 5 (.bin .sub (.bin .mod (.bi .int (.cons (.idx (.varB 0) (.bin .mod (.bin .add (.bin .add (.varB 1) (.lit (.int 1))) (.varB 4)) (.bi .len (.cons (.varB 0) .nil)))) .nil)) (.lit (.int 7))) (.lit (.int 3))))
    (.cons (.set 3 (.bin .add (.varB 3) (.ite (.cmp .ne (.varB 5) (.lit (.int 0))) (.lst (.cons (.tup (.cons (.idx (.varB 2) (.varB 4)) (.cons (.var 5) .nil))) .nil)) (.lst .nil)))) .nil)) := ⟨_, rfl⟩
  obtain ⟨ρ', e, ps, bb, o4, o5, hρ, h1, h2, h3⟩ := forL_range (t := .nm 4) (fb := exs (run P n) b)
    (fun k ρ => ∃ (ps : Ps) (bb : Bool) (o4 o5 : Option (Bool × D)), ρ = [some (false, nums ds), some (false, .int (at_ : Nat)), some (false, .str x), some (bb, .list (ps.map pr)), o4, o5] ∧
      (ps.map (·.1)).Sublist ((x.cps.toList.take k).map nmOf) ∧ (∀ p ∈ ps, p.2 ≠ 0 ∧ -3 ≤ p.2 ∧ p.2 ≤ 3) ∧ ps.length ≤ k)
    (n := x.length) (ρ := [some (false, nums ds), some (false, .int (at_ : Nat)), some (false, .str x), some (true, .list (([] : Ps).map pr)), none, none])
    ⟨[], true, none, none, rfl, List.nil_sublist _, (fun p hp => nomatch hp), Nat.le_refl _⟩
    (fun k ρ hk ⟨ps, bb, o4, o5, hρ, g1, g2, g3⟩ => by
      subst hρ
      obtain ⟨d, m1, m2⟩ := hmod ((at_ : Nat) + 1 + (k : Nat)) (by omega)
      have hc : x.cps.toList[k]? = some (x.cps.toList[k]'(by rw [hlx]; exact hk)) := List.getElem?_eq_getElem _
      generalize hcc : x.cps.toList[k]'(by rw [hlx]; exact hk) = c at hc
      have hch := idx_chr hc hx.sz
      have hz : (100 : Nat) ≤ sizeLine := by decide
      have hf := hx.few
      have htk : (x.cps.toList.take (k + 1)).map nmOf = (x.cps.toList.take k).map nmOf ++ [nmOf c] := by
        rw [List.take_add_one, hc]
        simp
      by_cases h0 : d % 7 - 3 = 0
      · refine ⟨_, _, rfl, .inl ?_, ps, false, some (false, .int (k : Nat)), some (false, .int (d % 7 - 3)), rfl, ?_, g2, by omega⟩
        · subst hb
          have ha : addD (.list (ps.map pr)) (.list []) = .ok (.list (ps.map pr)) := by
            have : (ps.map pr).length + ([] : List D).length ≤ sizeLine := by rw [List.length_map, List.length_nil]; omega
            simp only [addD, if_pos this, List.append_nil]
          simp only [nums] at m2
          simp -implicitDefEqProofs [nums, m1, m2, mod_pos (i := d) (j := 7) (by decide), h0, ha]
        · rw [htk]
          exact g1.trans (List.sublist_append_left _ _)
      · refine ⟨_, _, rfl, .inl ?_, ps ++ [(nmOf c, d % 7 - 3)], false, some (false, .int (k : Nat)), some (false, .int (d % 7 - 3)), rfl, ?_, ?_, by rw [List.length_append, List.length_singleton]; omega⟩
        · subst hb
          have ha : addD (.list (ps.map pr)) (.list [.tuple [.str ⟨#[c]⟩, .int (d % 7 - 3)]]) = .ok (.list ((ps ++ [(nmOf c, d % 7 - 3)]).map pr)) := by
            have : (ps.map pr).length + ([.tuple [.str ⟨#[c]⟩, .int (d % 7 - 3)]] : List D).length ≤ sizeLine := by rw [List.length_map, List.length_singleton]; omega
            simp only [addD, if_pos this, List.map_append]
            rfl
          simp only [nums] at m2
          simp -implicitDefEqProofs only [exs_cons, ex_set, ev_bin, ev_bi, evs_cons, evs_nil, ev_idx, ev_varB, getB_0, getB_s, ev_lit, ok_bind, f_sub, f_mod, f_add, addD_int, bf_len, nums, Mp.len_list, List.length_map, m1, m2, bf_int, int_int, mod_pos (i := d) (j := 7) (by decide), subD_int, ok_st, nx_seq, List.set_cons_succ, List.set_cons_zero, ev_ite, evT_cmp, o_ne, neD_int, boolD_bool, ev_lst, ev_tup, ev_var, getV_s, getV_0, hch, tupD_2, lstD_1, exs_nil]
          have hne : (!(d % 7 - 3 == 0)) = true := by simp [h0]
          rw [hne]
          simp only [if_true, ok_bind, ha, ok_st, nx_seq, exs_nil]
        · rw [htk, List.map_append]
          exact g1.append (List.Sublist.refl _)
        · intro p hp
          rcases List.mem_append.mp hp with hp | hp
          · exact g2 p hp
          · rw [List.mem_singleton.mp hp]
            exact ⟨h0, by show -3 ≤ d % 7 - 3; omega, by show d % 7 - 3 ≤ 3; omega⟩)
  subst hρ
  have htake : x.cps.toList.take x.length = x.cps.toList := List.take_of_length_le (by rw [hlx]; exact Nat.le_refl _)
  rw [htake] at h1
  have asc : (ps.map (·.1)).Pairwise fun a b => ltS a b = true := hx.asc.sublist h1
  have hnm : ∀ p ∈ ps, ∃ c ∈ x.cps.toList, p.1 = nmOf c := fun p hp => by
    have := h1.subset (List.mem_map.mpr ⟨p, hp, rfl⟩)
    obtain ⟨c, hc, e⟩ := List.mem_map.mp this
    exact ⟨c, hc, e.symm⟩
  obtain ⟨d, m1, m2⟩ := hmod (at_ : Nat) (by omega)
  refine ⟨d % 19 - 9, ps, ?_, ⟨fun p hp => ?_, fun p hp => (h2 p hp).1, asc, by have := hx.few; omega⟩, fun p hp => (h2 p hp).2, hnm⟩
  · rw [run_at lk__law_form rfl]
    have hlen : lenF (.str x) = .ok (.int (x.length : Nat)) := by
      show (if x.length ≤ sizeLine then Out.ok (PyData.int x.length) else .stuck) = _
      rw [if_pos hx.sz]
    have hr : range1D [.int (x.length : Nat)] = .ok (rangeI 0 x.length) := by
      have : okR ((x.length : Nat) : Int) = true := by
        have := hx.few
        unfold okR
        simp only [Bool.and_eq_true, decide_eq_true_eq]
        omega
      simp [range1D, this]
    subst hb
    simp only [nums, List.map_nil] at e m2 ⊢
    simp -implicitDefEqProofs [c__law_form, rho0, hlen, hr, e, m1, m2, sorted_pr asc, mod_pos (i := d) (j := 19) (by decide), frm]
  · obtain ⟨c, hc, e⟩ := hnm p hp
    rw [e]
    exact hx.ok c hc
theorem law_value_run (n : Nat) {c : Int} {ps es : Ps} {v : PySem.Str → Int} (h : ps.length ≤ 40) (hv : Vals es v ps) : run P (n + 1) 110 [frm c ps, .dict (strE es)] = .ok (.int (val c ps v)) := by
  rw [run_at lk__law_value rfl]
  have e1 : (noxO (lcL (turnD (.tup [.nm 2, .nm 3]) (evW (run P n) .no) (ev (run P n) (.bin .mul (.varB 3) (.idx (.varB 1) (.varB 2)))) [some (false, .tuple [.int c, .tuple (ps.map pr)]), some (false, .dict (strE es)), none, none]) (ps.map pr))).bind lstD = .ok (.list ((ps.map fun p => p.2 * v p.1).map .int)) := by
    rw [List.map_map]
    refine lcs (lcL_of fun p hp => ?_) (by rw [List.length_map]; exact len40 h)
    obtain ⟨h1, h2⟩ := hv p hp
    simp [turnD, pr, idx_str h1, mul_small h2]
  simp [c__law_value, rho0, frm, e1, -List.map_map, val]
/-! ## the law's divisor, points -/
theorem gcd_loop (n : Nat) (o0 o1 o2 : Option (Bool × D)) (x y : Nat) : ∃ o, whileR (evT (run P n) (.cmp .gt (.varB 4) (.lit (.int 0)))) (exs (run P n) (.cons (.par [.nm 3, .nm 4] (.cons (.var 4) (.cons (.bin .mod (.bi .int (.cons (.varB 3) .nil)) (.varB 4)) .nil))) .nil)) [o0, o1, o2, some (false, .int (x : Int)), some (false, .int (y : Int))] =
    .nx [o0, o1, o2, some (false, .int (Nat.gcd x y : Nat)), o] := by
  obtain ⟨ρ', e, hq⟩ := whileR_ok (fc := evT (run P n) (.cmp .gt (.varB 4) (.lit (.int 0)))) (fb := exs (run P n) (.cons (.par [.nm 3, .nm 4] (.cons (.var 4) (.cons (.bin .mod (.bi .int (.cons (.varB 3) .nil)) (.varB 4)) .nil))) .nil))
    (fun ρ => ∃ a b : Nat, ρ = [o0, o1, o2, some (false, .int (a : Int)), some (false, .int (b : Int))] ∧ Nat.gcd a b = Nat.gcd x y)
    (fun ρ => match ρ with
      | [_, _, _, _, some (_, .int y)] => y.natAbs
      | _ => 0)
    (fun ρ => ∃ o, ρ = [o0, o1, o2, some (false, .int (Nat.gcd x y : Nat)), o])
    (fun ρ ⟨a, b, e1, e2⟩ => by
      subst e1
      by_cases h : b = 0
      · subst h
        refine .inl ⟨by simp, some (false, .int 0), ?_⟩
        rw [← e2, Nat.gcd_zero_right]
        rfl
      · have hb : (0 : Int) < (b : Int) := by omega
        have hb2 : 0 < b := Nat.pos_of_ne_zero h
        refine .inr ⟨by simp [hb2], [o0, o1, o2, some (false, .int (b : Int)), some (false, .int ((a % b : Nat) : Int))], .inl ?_, ⟨b, a % b, rfl, ?_⟩, ?_⟩
        · have hm : modD (.int (a : Int)) (.int (b : Int)) = .ok (.int ((a % b : Nat) : Int)) := mod_pos hb
          simp [hm]
        · rw [← e2, Nat.gcd_comm a b, Nat.gcd_rec b a, Nat.gcd_comm]
        · show ((a % b : Nat) : Int).natAbs < (b : Int).natAbs
          have := Nat.mod_lt a hb2
          omega)
    (ρ := [o0, o1, o2, some (false, .int (x : Int)), some (false, .int (y : Int))]) ⟨x, y, rfl, rfl⟩
  obtain ⟨o, rfl⟩ := hq
  exact ⟨o, e⟩
theorem law_divisor_run (n : Nat) (xs : List Int) : run P (n + 1) 154 [.list (xs.map .int)] = .ok (.int ((xs.foldl (fun g x => Nat.gcd g x.natAbs) 0 : Nat) : Int)) := by
  rw [run_at lk__law_divisor rfl]
  obtain ⟨b, hb⟩ : ∃ b, b = (Ss.cons (.par [(.nm 3), (.nm 4)] (.cons (.bi .abs (.cons (.varB 2) .nil)) (.cons (.var 1) .nil)))
    (.cons (.whl (.cmp .gt (.varB 4) (.lit (.int 0))) (.cons (.par [(.nm 3), (.nm 4)] (.cons (.var 4) (.cons (.bin .mod (.bi .int (.cons (.varB 3) .nil)) (.varB 4)) .nil))) .nil)) (.cons (.set 1 (.var 3)) .nil))) := ⟨_, rfl⟩
  obtain ⟨ρ', e, g, o2, o3, o4, hρ, hg⟩ := forL_idx (t := .nm 2) (fb := exs (run P n) b)
    (fun k ρ => ∃ (g : Nat) (o2 o3 o4 : Option (Bool × D)), ρ = [some (false, .list (xs.map .int)), some (false, .int (g : Nat)), o2, o3, o4] ∧ g = (xs.take k).foldl (fun g x => Nat.gcd g x.natAbs) 0)
    (ds := xs.map .int) (ρ := [some (false, .list (xs.map .int)), some (false, .int (0 : Nat)), none, none, none]) ⟨0, none, none, none, rfl, rfl⟩
    (fun k d ρ hd ⟨g, o2, o3, o4, hρ, hg⟩ => by
      subst hρ
      rw [List.getElem?_map, Option.map_eq_some_iff] at hd
      obtain ⟨i, hi, rfl⟩ := hd
      obtain ⟨o, ho⟩ := gcd_loop n (some (false, .list (xs.map .int))) (some (false, .int (g : Nat))) (some (false, .int i)) i.natAbs g
      refine ⟨_, _, rfl, .inl ?_, Nat.gcd i.natAbs g, some (false, .int i), some (false, .int (Nat.gcd i.natAbs g : Nat)), o, rfl, ?_⟩
      · subst hb
        simp -implicitDefEqProofs only [exs_cons, ex_par, evs_cons, ev_bi, ev_varB, evs_nil, getB_s, getB_0, List.set_cons_succ, List.set_cons_zero, ok_bind, bf_abs, abs_int, abs_nat, ev_var, getV_s, getV_0, ok_st, bindsS_eq, bindTs_cons, bindT_nm, Option.bind_some, bindTs_nil, nx_seq, ex_whl]
        simp only [ho, nx_seq]
        simp
      · rw [List.take_add_one, hi, Option.toList_some, List.foldl_append, ← hg]
        exact Nat.gcd_comm _ _)
  subst hρ
  rw [List.length_map, List.take_of_length_le (Nat.le_refl _)] at hg
  subst hb hg
  simp -implicitDefEqProofs only [c__law_divisor, rho0, List.map_cons, List.map_nil, List.length_cons, List.length_nil, List.replicate, List.cons_append, List.nil_append, exs_cons, ex_set, ev_lit, ok_st, nx_seq, List.set_cons_succ, List.set_cons_zero, ex_for, evI_pl, ev_var, getV_0, ok_bind, items_list]
  rw [show (PyData.int ((0 : Nat) : Int)) = PyData.int 0 from rfl] at e
  rw [e]
  simp
/-- what a point's dict must give -/
def PtOk (x : PySem.Str) (k : Nat) (d : D) : Prop := ∃ row : List D, d = .tuple row ∧ row.length = k ∧ ∀ e ∈ row, ∃ i : Int, e = .int i
theorem keys_putA {es : Ps} {k x : PySem.Str} {v : Int} (h : x = k ∨ x ∈ es.map (·.1)) : x ∈ (putA es k v).map (·.1) := by
  unfold putA
  split
  · rename_i ha
    rw [List.map_map]
    have e : (es.map ((·.1) ∘ fun p => if (p.1 == k) = true then (p.1, v) else p)) = es.map (·.1) := by
      refine List.map_congr_left fun p _ => ?_
      simp only [Function.comp]
      split <;> rfl
    rw [e]
    rcases h with rfl | h
    · obtain ⟨p, hp, hk⟩ := List.any_eq_true.mp ha
      exact List.mem_map.mpr ⟨p, hp, by simpa using hk⟩
    · exact h
  · rw [List.map_append]
    rcases h with rfl | h
    · exact List.mem_append_right _ (by simp)
    · exact List.mem_append_left _ h
theorem keys_fold {α : Type} {f : α → PySem.Str} {g : α → Int} : ∀ (xs : List α) (es : Ps) (x : PySem.Str), (x ∈ es.map (·.1) ∨ ∃ a ∈ xs, x = f a) → x ∈ (xs.foldl (fun es a => putA es (f a) (g a)) es).map (·.1)
  | [], es, x, h => by
    rcases h with h | ⟨a, ha, _⟩
    · exact h
    · cases ha
  | a :: xs, es, x, h => by
    rw [List.foldl_cons]
    refine keys_fold xs _ x ?_
    rcases h with h | ⟨b, hb, e⟩
    · exact .inl (keys_putA (.inr h))
    · rcases List.mem_cons.mp hb with rfl | hb
      · exact .inl (keys_putA (.inl e))
      · exact .inr ⟨b, hb, e⟩
theorem merge_strE {α : Type} {f : α → PySem.Str} {g : α → Int} : ∀ (xs : List α) (es : Ps), mergeE (strE es) (xs.map fun a => (.inr (f a), .int (g a))) = strE (xs.foldl (fun es a => putA es (f a) (g a)) es)
  | [], es => rfl
  | a :: xs, es => by
    rw [List.map_cons, List.foldl_cons]
    show mergeE (putE (strE es) (.inr (f a)) (.int (g a))) _ = _
    rw [put_strE]
    exact merge_strE xs _
theorem pairs_map {α : Type} {f : α → PySem.Str} {g : α → Int} : ∀ (xs : List α), pairsOf (xs.map fun a => .tuple [.str (f a), .int (g a)]) = some (xs.map fun a => (.inr (f a), .int (g a)))
  | [] => rfl
  | a :: xs => by
    rw [List.map_cons, List.map_cons]
    show (pairsOf (xs.map fun a => .tuple [.str (f a), .int (g a)])).map ((.inr (f a), .int (g a)) :: ·) = _
    rw [pairs_map xs]
    rfl
theorem dict_map {α : Type} {f : α → PySem.Str} {g : α → Int} (xs : List α) : dictF (.list (xs.map fun a => .tuple [.str (f a), .int (g a)])) = .ok (.dict (strE (xs.foldl (fun es a => putA es (f a) (g a)) []))) := by
  simp only [dictF, pairs_map]
  have := merge_strE (f := f) (g := g) xs []
  exact congrArg (fun z => Out.ok (PyData.dict z)) this
theorem law_points_run (n : Nat) {x : PySem.Str} {lo hi : Int} (hx : Nms x) (h1 : okR lo = true) (h2 : okR (hi + 1) = true) (hw : (hi + 1 - lo).toNat ^ x.length ≤ 10000) (hlo : 1 ≤ (hi + 1 - lo).toNat) :
    ∃ L : List D, run P (n + 1) 111 [.str x, .tuple (List.replicate x.length (.tuple [.int lo, .int hi]))] = .ok (.list L) ∧ ∀ d ∈ L, ∃ (row : D) (es : Ps), d = .tuple [row, .dict (strE es)] ∧ ∀ c ∈ x.cps.toList, (es.lookup (nmOf c)).isSome = true := by
  have hz : (10000 : Nat) ≤ sizeLine := by decide
  have hlx : x.cps.toList.length = x.length := by simp [PySem.Str.length]
  generalize hwd : (hi + 1 - lo).toNat = w at hw hlo
  have hpow : ∀ j, j ≤ x.length → w ^ j ≤ 10000 := fun j hj => Nat.le_trans (Nat.pow_le_pow_right hlo hj) hw
  have hr2 : range2D [.int lo, .int (hi + 1)] = .ok (rangeI lo w) := by
    simp [range2D, h1, h2, hwd]
  obtain ⟨bx, hbx⟩ : ∃ b, b = PyData.tuple (List.replicate x.length (.tuple [.int lo, .int hi])) := ⟨_, rfl⟩
  obtain ⟨bi, hbi⟩ : ∃ b, b = (Ss.cons (.set 5 (.bin .add (.varB 5) (.lc (.nm 7) (.rg2 (.cons (.varB 3) (.cons (.bin .add (.varB 4) (.lit (.int 1))) .nil))) .no (.bin .add (.varB 6) (.tup (.cons (.var 7) .nil))) [7]))) .nil) := ⟨_, rfl⟩
  have inner : ∀ (j : Nat) (rs : List D) (o6 o7 o8 : Option (Bool × D)), j < x.length → (∀ d ∈ rs, PtOk x j d) → rs.length ≤ w ^ j → ∃ (ls : List D) (bb : Bool) (o6' o7' o8' : Option (Bool × D)),
      forL (.nm 6) (exs (run P n) bi) rs [some (false, .str x), some (false, bx), some (false, .list rs), some (false, .int lo), some (false, .int hi), some (true, .list []), o6, o7, o8] =
        .nx [some (false, .str x), some (false, bx), some (false, .list rs), some (false, .int lo), some (false, .int hi), some (bb, .list ls), o6', o7', o8'] ∧ (∀ d ∈ ls, PtOk x (j + 1) d) ∧ ls.length ≤ w ^ (j + 1) := by
    intro j rs o6 o7 o8 hj hrs hlen
    have hp := hpow (j + 1) hj
    obtain ⟨ρ', e, ls, bb, o6', o7', o8', hρ, g1, g2⟩ := forL_idx (t := .nm 6) (fb := exs (run P n) bi)
      (fun k ρ => ∃ (ls : List D) (bb : Bool) (o6' o7' o8' : Option (Bool × D)), ρ = [some (false, .str x), some (false, bx), some (false, .list rs), some (false, .int lo), some (false, .int hi), some (bb, .list ls), o6', o7', o8'] ∧ (∀ d ∈ ls, PtOk x (j + 1) d) ∧ ls.length ≤ k * w)
      (ds := rs) (ρ := [some (false, .str x), some (false, bx), some (false, .list rs), some (false, .int lo), some (false, .int hi), some (true, .list []), o6, o7, o8]) ⟨[], true, o6, o7, o8, rfl, (fun d hd => nomatch hd), by simp⟩
      (fun k d ρ hd ⟨ls, bb, o6', o7', o8', hρ, g1, g2⟩ => by
        subst hρ
        have hk := (List.getElem?_eq_some_iff.mp hd).1
        obtain ⟨row, rfl, hrl, hri⟩ := hrs d (List.mem_of_getElem? hd)
        have hfew := hx.few
        have hkw : (k + 1) * w ≤ w ^ (j + 1) := by
          rw [Nat.pow_succ]
          exact Nat.mul_le_mul_right w (by omega)
        have hkw2 : (k + 1) * w = k * w + w := by rw [Nat.add_mul, Nat.one_mul]
        have hlc := lcL_range (g := turnD (.nm 7) (evW (run P n) .no) (ev (run P n) (.bin .add (.varB 6) (.tup (.cons (.var 7) .nil)))) [some (false, .str x), some (false, bx), some (false, .list rs), some (false, .int lo), some (false, .int hi), some (bb, .list ls), some (false, .tuple row), none, o8']) (h := fun v => .tuple (row ++ [.int (lo + (v : Nat))])) (lo := lo) (n := w) fun v hv => by
          have ha : addD (.tuple row) (.tuple [.int (lo + (v : Nat))]) = .ok (.tuple (row ++ [.int (lo + (v : Nat))])) := by
            have : row.length + [PyData.int (lo + (v : Nat))].length ≤ sizeLine := by rw [List.length_singleton]; omega
            simp only [addD, if_pos this]
          simp [turnD, ha]
        have hne : ((List.range w).map fun v : Nat => PyData.tuple (row ++ [.int (lo + (v : Nat))])).length = w := by simp
        refine ⟨_, _, rfl, .inl ?_, ls ++ (List.range w).map (fun v : Nat => PyData.tuple (row ++ [.int (lo + (v : Nat))])), false, some (false, .tuple row), o7', o8', rfl, ?_, by rw [List.length_append, hne]; omega⟩
        · subst hbi
          have hap : addD (.list ls) (.list ((List.range w).map fun v : Nat => PyData.tuple (row ++ [.int (lo + (v : Nat))]))) = .ok (.list (ls ++ (List.range w).map fun v : Nat => PyData.tuple (row ++ [.int (lo + (v : Nat))]))) := by
            have : ls.length + ((List.range w).map fun v : Nat => PyData.tuple (row ++ [.int (lo + (v : Nat))])).length ≤ sizeLine := by rw [hne]; omega
            simp only [addD, if_pos this]
          have hl : lstD ((List.range w).map fun v : Nat => PyData.tuple (row ++ [.int (lo + (v : Nat))])) = .ok (.list ((List.range w).map fun v : Nat => PyData.tuple (row ++ [.int (lo + (v : Nat))]))) := lstD_ok (by rw [hne]; omega)
          simp -implicitDefEqProofs only [exs_cons, ex_set, ev_bin, ev_varB, getB_s, getB_0, ev_lc, evI_rg2, evs_cons, ev_lit, evs_nil, ok_bind, f_add, addD_int, hr2, List.set_cons_succ, List.set_cons_zero, wipe_cons, wipe_nil, hlc, noxO_ok, hl, hap, ok_st, nx_seq, exs_nil]
        · intro d hd
          rcases List.mem_append.mp hd with hd | hd
          · exact g1 d hd
          · obtain ⟨v, _, rfl⟩ := List.mem_map.mp hd
            refine ⟨_, rfl, by rw [List.length_append, List.length_singleton, hrl], fun e he => ?_⟩
            rcases List.mem_append.mp he with he | he
            · exact hri e he
            · exact ⟨_, List.mem_singleton.mp he⟩)
    subst hρ
    refine ⟨ls, bb, o6', o7', o8', e, g1, ?_⟩
    rw [Nat.pow_succ]
    exact Nat.le_trans g2 (Nat.mul_le_mul_right w hlen)
  obtain ⟨bo, hbo⟩ : ∃ b, b = (Ss.cons (.setF 5 (.lst .nil)) (.cons (.dem [2] (.for_ (.nm 6) (.pl (.var 2)) bi)) (.cons (.dem [5] (.set 2 (.var 5))) .nil))) := ⟨_, rfl⟩
  obtain ⟨ρ', e, rs, bb, o3, o4, o5, o6, o7, o8, hρ, g1, g2⟩ := forL_idx (t := .tup [.nm 3, .nm 4]) (fb := exs (run P n) bo)
    (fun j ρ => ∃ (rs : List D) (bb : Bool) (o3 o4 o5 o6 o7 o8 : Option (Bool × D)), ρ = [some (false, .str x), some (false, bx), some (bb, .list rs), o3, o4, o5, o6, o7, o8] ∧ (∀ d ∈ rs, PtOk x j d) ∧ rs.length ≤ w ^ j)
    (ds := List.replicate x.length (.tuple [.int lo, .int hi])) (ρ := [some (false, .str x), some (false, bx), some (true, .list [.tuple []]), none, none, none, none, none, none])
    ⟨[.tuple []], true, none, none, none, none, none, none, rfl, (fun d hd => ⟨[], List.mem_singleton.mp hd, rfl, fun e he => nomatch he⟩), by simp⟩
    (fun j d ρ hd ⟨rs, bb, o3, o4, o5, o6, o7, o8, hρ, g1, g2⟩ => by
      subst hρ
      have hj : j < x.length := by
        have := (List.getElem?_eq_some_iff.mp hd).1
        rwa [List.length_replicate] at this
      rw [List.getElem?_replicate, if_pos hj] at hd
      cases hd
      obtain ⟨ls, b2, o6', o7', o8', e, k1, k2⟩ := inner j rs o6 o7 o8 hj g1 g2
      refine ⟨_, _, rfl, .inl ?_, ls, false, some (false, .int lo), some (false, .int hi), some (false, .list ls), o6', o7', o8', rfl, k1, k2⟩
      subst hbo
      simp -implicitDefEqProofs only [exs_cons, ex_setF, ev_lst, evs_nil, ok_bind, lstD_nil, ok_st, nx_seq, List.set_cons_succ, List.set_cons_zero, ex_dem, dem_cons, dem_nil, dem1_eq, demF_s, demF_0s, ex_for, evI_pl, ev_var, getV_s, getV_0, items_list, e, ex_set, exs_nil])
  subst hρ
  rw [List.length_replicate] at g1 g2
  have hrs : rs.length ≤ sizeLine := by have := hpow x.length (Nat.le_refl _); omega
  have hlen : lenF (.str x) = .ok (.int (x.length : Nat)) := by
    show (if x.length ≤ sizeLine then Out.ok (PyData.int x.length) else .stuck) = _
    rw [if_pos hx.sz]
  have hr1 : range1D [.int (x.length : Nat)] = .ok (rangeI 0 x.length) := by
    have : okR ((x.length : Nat) : Int) = true := by
      have := hx.few
      unfold okR
      simp only [Bool.and_eq_true, decide_eq_true_eq]
      omega
    simp [range1D, this]
  have hfew := hx.few
  -- the dict of one row
  have each : ∀ d ∈ rs, ∃ es : Ps, (∀ c ∈ x.cps.toList, (es.lookup (nmOf c)).isSome = true) ∧ ∀ ρ6 : Option (Bool × D), turnD (.nm 6) (evW (run P n) .no) (ev (run P n) (.tup (.cons (.var 6) (.cons (.bi .dict (.cons (.lc (.nm 8) (.rg1 (.cons (.bi .len (.cons (.varB 0) .nil)) .nil)) .no (.tup (.cons (.idx (.varB 0) (.varB 8)) (.cons (.idx (.varB 6) (.varB 8)) .nil))) [8]) .nil)) .nil))))
      [some (false, .str x), some (false, bx), some (bb, .list rs), o3, o4, o5, ρ6, o7, o8] d = .ok (some (.tuple [d, .dict (strE es)])) := by
    intro d hd
    obtain ⟨row, rfl, hrl, hri⟩ := g1 d hd
    obtain ⟨f, hf⟩ : ∃ f : Nat → PySem.Str, ∀ k, k < x.length → x.cps.toList[k]? = some ((f k).cps.toList.getD 0 0) ∧ f k = nmOf ((f k).cps.toList.getD 0 0) := by
      refine ⟨fun k => nmOf (x.cps.toList.getD k 0), fun k hk => ?_⟩
      have hk' : k < x.cps.toList.length := by rw [hlx]; exact hk
      have e1 : (nmOf (x.cps.toList.getD k 0)).cps.toList.getD 0 0 = x.cps.toList.getD k 0 := rfl
      rw [e1]
      exact ⟨by rw [List.getD_eq_getElem?_getD, List.getElem?_eq_getElem hk']; rfl, rfl⟩
    obtain ⟨g, hg⟩ : ∃ g : Nat → Int, ∀ k, k < x.length → row[k]? = some (.int (g k)) := by
      refine ⟨fun k => match row[k]? with
        | some (.int i) => i
        | _ => 0, fun k hk => ?_⟩
      have hk' : k < row.length := by rw [hrl]; exact hk
      obtain ⟨i, hi⟩ := hri row[k] (List.getElem_mem hk')
      have hk2 : row[k]? = some (.int i) := by rw [List.getElem?_eq_getElem hk', hi]
      simp only [hk2]
    refine ⟨(List.range x.length).foldl (fun es k => putA es (f k) (g k)) [], fun c hc => ?_, fun ρ6 => ?_⟩
    · rw [List.lookup_isSome_iff]
      obtain ⟨k, hk⟩ := List.getElem?_of_mem hc
      have hk' : k < x.length := by rw [← hlx]; exact (List.getElem?_eq_some_iff.mp hk).1
      have hm : nmOf c ∈ ((List.range x.length).foldl (fun es k => putA es (f k) (g k)) []).map (·.1) := by
        refine keys_fold (f := f) (g := g) _ _ _ (.inr ⟨k, List.mem_range.mpr hk', ?_⟩)
        obtain ⟨h3, h4⟩ := hf k hk'
        rw [hk] at h3
        rw [h4, ← Option.some.inj h3]
      obtain ⟨p, hp, e⟩ := List.mem_map.mp hm
      exact ⟨p, hp, by simp [e]⟩
    · have hlc := lcL_range (g := turnD (.nm 8) (evW (run P n) .no) (ev (run P n) (.tup (.cons (.idx (.varB 0) (.varB 8)) (.cons (.idx (.varB 6) (.varB 8)) .nil)))) [some (false, .str x), some (false, bx), some (bb, .list rs), o3, o4, o5, some (false, .tuple row), o7, none]) (h := fun k => .tuple [.str (f k), .int (g k)]) (lo := 0) (n := x.length) fun k hk => by
        obtain ⟨h3, h4⟩ := hf k hk
        have i1 := idx_chr h3 hx.sz
        have i2 := idx_tup (hg k hk)
        have h5 : (⟨#[(f k).cps.toList.getD 0 0]⟩ : PySem.Str) = f k := h4.symm
        rw [h5] at i1
        simp [turnD, i1, i2]
      have hd2 := dict_map (f := f) (g := g) (List.range x.length)
      have hl : lstD ((List.range x.length).map fun k => PyData.tuple [.str (f k), .int (g k)]) = .ok (.list ((List.range x.length).map fun k => PyData.tuple [.str (f k), .int (g k)])) := lstD_ok (by rw [List.length_map, List.length_range]; exact hx.sz)
      simp -implicitDefEqProofs [turnD, hlen, hr1, hlc, hl, hd2]
  obtain ⟨es, hes⟩ : ∃ es : D → Ps, ∀ d ∈ rs, (∀ c ∈ x.cps.toList, ((es d).lookup (nmOf c)).isSome = true) ∧ ∀ ρ6 : Option (Bool × D), turnD (.nm 6) (evW (run P n) .no) (ev (run P n) (.tup (.cons (.var 6) (.cons (.bi .dict (.cons (.lc (.nm 8) (.rg1 (.cons (.bi .len (.cons (.varB 0) .nil)) .nil)) .no (.tup (.cons (.idx (.varB 0) (.varB 8)) (.cons (.idx (.varB 6) (.varB 8)) .nil))) [8]) .nil)) .nil))))
      [some (false, .str x), some (false, bx), some (bb, .list rs), o3, o4, o5, ρ6, o7, o8] d = .ok (some (.tuple [d, .dict (strE (es d))])) := by
    refine ⟨fun d => @dite Ps (d ∈ rs) (Classical.propDecidable _) (fun h => (each d h).choose) fun _ => [], fun d hd => ?_⟩
    simp only [dif_pos hd]
    exact (each d hd).choose_spec
  refine ⟨rs.map fun d => .tuple [d, .dict (strE (es d))], ?_, fun d hd => ?_⟩
  · rw [run_at lk__law_points rfl, ← hbx]
    have hfin := lcL_map (ds := rs) (g := turnD (.nm 6) (evW (run P n) .no) (ev (run P n) (.tup (.cons (.var 6) (.cons (.bi .dict (.cons (.lc (.nm 8) (.rg1 (.cons (.bi .len (.cons (.varB 0) .nil)) .nil)) .no (.tup (.cons (.idx (.varB 0) (.varB 8)) (.cons (.idx (.varB 6) (.varB 8)) .nil))) [8]) .nil)) .nil)))) [some (false, .str x), some (false, bx), some (bb, .list rs), o3, o4, o5, none, o7, o8]) (h := fun d => .tuple [d, .dict (strE (es d))]) fun d hd => (hes d hd).2 none
    have hl : lstD (rs.map fun d => PyData.tuple [d, .dict (strE (es d))]) = .ok (.list (rs.map fun d => PyData.tuple [d, .dict (strE (es d))])) := lstD_ok (by rw [List.length_map]; exact hrs)
    have hit : itemsD bx = .ok (List.replicate x.length (.tuple [.int lo, .int hi])) := by rw [hbx]; rfl
    subst hbo hbi
    simp -implicitDefEqProofs only [c__law_points, rho0, List.map_cons, List.map_nil, List.length_cons, List.length_nil, List.replicate, List.cons_append, List.nil_append, exs_cons, ex_setF, ev_lst, evs_cons, ev_tup, evs_nil, ok_bind, tupD_nil, lstD_1, ok_st, nx_seq, List.set_cons_succ, List.set_cons_zero, ex_for, evI_pl, ev_var, getV_s, getV_0, hit, e, ex_ret, ev_lc, ev_varB, getB_s, getB_0, items_list, wipe_cons, wipe_nil]
    simp only [hfin, noxO_ok, ok_bind, hl, ok_st, ret_seq, ret_fin]
  · obtain ⟨d', hd', rfl⟩ := List.mem_map.mp hd
    exact ⟨d', es d', rfl, (hes d' hd').1⟩
/-! ## the law -/
theorem fit_pr (ps : Ps) : fitAll 58 (ps.map pr) = true := by
  induction ps with
  | nil => rfl
  | cons p ps ih =>
    rw [List.map_cons]
    simp [fitAll, fitD, pr] at ih ⊢
    exact ih
theorem fit_atm (c : Int) (ps : Ps) : fitD dpt (atm c ps) = true := by
  have h := fit_pr ps
  have h57 : fitAll 57 (ps.map pr) = true := by
    clear h
    induction ps with
    | nil => rfl
    | cons p ps ih =>
      rw [List.map_cons]
      simp [fitAll, fitD, pr] at ih ⊢
      exact ih
  simp [atm, frm, fitD, fitAll, h57]
theorem eqv_prs (ps : Ps) : PyData.eqvAll (ps.map pr) (ps.map pr) = true := by
  induction ps with
  | nil => simp [PyData.eqvAll]
  | cons p ps ih =>
    rw [List.map_cons]
    simp [PyData.eqvAll, PyData.eqv, pr] at ih ⊢
    exact ih
theorem eqv_atm (c : Int) (ps : Ps) : PyData.eqv (atm c ps) (atm c ps) = true := by
  have := eqv_prs ps
  simp [atm, frm, PyData.eqv, PyData.eqvAll, this]
theorem ne_atm (c : Int) (ps : Ps) : neD (atm c ps) (atm c ps) = .ok (.bool false) := by
  simp only [neD]
  rw [if_pos ⟨fit_atm c ps, fit_atm c ps⟩, eqv_atm]
  rfl
theorem eq_atm (c : Int) (ps : Ps) : eqD (atm c ps) (atm c ps) = .ok (.bool true) := by
  simp only [eqD]
  rw [if_pos ⟨fit_atm c ps, fit_atm c ps⟩, eqv_atm]
theorem ok_a : NmOk (nmOf 97) := fun n => by kernel_rfl
theorem ok_b : NmOk (nmOf 98) := fun n => by kernel_rfl
theorem ok_c : NmOk (nmOf 99) := fun n => by kernel_rfl
theorem nms_of {x : PySem.Str} {cs : List Nat} (h : x.cps.toList = cs) (h1 : ∀ c ∈ cs, c = 97 ∨ c = 98 ∨ c = 99) (h2 : (cs.map nmOf).Pairwise fun a b => ltS a b = true) (h3 : cs.length ≤ 3) : Nms x where
  ok := fun c hc => by
    rw [h] at hc
    rcases h1 c hc with rfl | rfl | rfl
    · exact ok_a
    · exact ok_b
    · exact ok_c
  asc := by rw [h]; exact h2
  few := by
    have : x.length = x.cps.toList.length := by simp [PySem.Str.length]
    rw [this, h]
    omega
def turns : List PySem.Str := ["abc", "ab", "a", "bc", "abc", "c", "ab", "abc"]
theorem turns_ok : ∀ k, k < 8 → ∃ x : PySem.Str, turns[k]? = some x ∧ Nms x ∧ 1 ≤ x.length ∧ x.length ≤ 3 := by
  have m1 : Nms "abc" := nms_of (cs := [97, 98, 99]) (by decide +kernel) (by decide) (by decide +kernel) (by decide)
  have m2 : Nms "ab" := nms_of (cs := [97, 98]) (by decide +kernel) (by decide) (by decide +kernel) (by decide)
  have m3 : Nms "a" := nms_of (cs := [97]) (by decide +kernel) (by decide) (by decide +kernel) (by decide)
  have m4 : Nms "bc" := nms_of (cs := [98, 99]) (by decide +kernel) (by decide) (by decide +kernel) (by decide)
  have m5 : Nms "c" := nms_of (cs := [99]) (by decide +kernel) (by decide) (by decide +kernel) (by decide)
  intro k hk
  match k, hk with
  | 0, _ => exact ⟨_, rfl, m1, by decide +kernel, by decide +kernel⟩
  | 1, _ => exact ⟨_, rfl, m2, by decide +kernel, by decide +kernel⟩
  | 2, _ => exact ⟨_, rfl, m3, by decide +kernel, by decide +kernel⟩
  | 3, _ => exact ⟨_, rfl, m4, by decide +kernel, by decide +kernel⟩
  | 4, _ => exact ⟨_, rfl, m1, by decide +kernel, by decide +kernel⟩
  | 5, _ => exact ⟨_, rfl, m5, by decide +kernel, by decide +kernel⟩
  | 6, _ => exact ⟨_, rfl, m2, by decide +kernel, by decide +kernel⟩
  | 7, _ => exact ⟨_, rfl, m1, by decide +kernel, by decide +kernel⟩
/-- a form of the law, its factors times size -/
theorem VF.scl {ps : Ps} (h : VF ps) {k : Int} (hk : k ≠ 0) : VF (scl k ps) where
  nm := fun p hp => by
    obtain ⟨q, hq, rfl⟩ := List.mem_map.mp hp
    exact h.nm q hq
  nz := fun p hp => by
    obtain ⟨q, hq, rfl⟩ := List.mem_map.mp hp
    exact Int.mul_ne_zero hk (h.nz q hq)
  asc := by rw [scl_names]; exact h.asc
  few := by unfold LW.scl; rw [List.length_map]; exact h.few
theorem Vals.of {es : Ps} {ps : Ps} (s : Sm ps) (h : ∀ p ∈ ps, (es.lookup p.1).isSome = true) : Vals es (fun x => (es.lookup x).getD 0) ps := fun p hp => by
  obtain ⟨v, hv⟩ := Option.isSome_iff_exists.mp (h p hp)
  refine ⟨by simp only [hv, Option.getD_some], .inl ?_⟩
  have := s p hp
  unfold smallI
  simp only [Bool.and_eq_true, decide_eq_true_eq]
  omega
theorem gcd_factors (ps : Ps) : ((ps.map (·.2)).foldl (fun g x => Nat.gcd g x.natAbs) 0 : Nat) = gcdL ps := by
  rw [List.foldl_map]
  rfl
/-- one point -/
def bPt : Ss := (.cons (.set 12 (.cmp .ge (.call 110 (.cons (.var 4) (.cons (.var 11) .nil))) (.lit (.int 0))))
  (.cons (.setF 13 (.lst (.cons (.call 124 (.cons (.tup (.cons (.lit (.str "least")) (.cons (.var 4) .nil))) (.cons (.var 11) .nil))) (.cons (.call 124 (.cons (.var 8) (.cons (.var 11) .nil))) (.cons (.call 124 (.cons (.var 9) (.cons (.var 11) .nil))) .nil)))))
  (.cons (.ite (.or (.cmp .ne (.varB 13) (.lst (.cons (.var 12) (.cons (.var 12) (.cons (.not (.varB 12)) .nil))))) (.not (.tr (.bi .all (.cons (.lc (.nm 14) (.pl (.varB 13)) .no (.isi (.varB 14) "bool") [14]) .nil)))))
  (.cons (.ret (.lit (.bool false)))
  .nil)
  .nil)
  .nil)))
theorem point_ok (n : Nat) {c : Int} {ps es : Ps} (h : VF ps) (s : Sm ps) (hv : ∀ p ∈ ps, (es.lookup p.1).isSome = true) (row : D) (o0 o1 o2 o3 o5 o6 o7 o12 o13 o14 : Option (Bool × D)) : ∃ o12' o13' o14', exs (run P (n + 5)) bPt [o0, o1, o2, o3, some (false, frm c ps), o5, o6, o7, some (false, atm (nrmC c ps) (nrmP ps)), some (false, atm (negC c ps) (negP ps)), some (false, row), some (false, .dict (strE es)), o12, o13, o14] =
    .nx [o0, o1, o2, o3, some (false, frm c ps), o5, o6, o7, some (false, atm (nrmC c ps) (nrmP ps)), some (false, atm (negC c ps) (negP ps)), some (false, row), some (false, .dict (strE es)), o12', o13', o14'] := by
  have V := Vals.of (es := es) s hv
  generalize hvv : (fun x => (es.lookup x).getD 0) = v at V
  have nm : ∀ {qs : Ps}, qs.map (·.1) = ps.map (·.1) → ∀ p ∈ qs, (es.lookup p.1).isSome = true := fun {qs} e p hp => by
    have : p.1 ∈ ps.map (·.1) := by rw [← e]; exact List.mem_map.mpr ⟨p, hp, rfl⟩
    obtain ⟨q, hq, e2⟩ := List.mem_map.mp this
    rw [← e2]
    exact hv q hq
  have V2 : Vals es v (nrmP ps) := by
    have := Vals.of (es := es) s.nrm (nm (nrmP_names h.nz))
    rw [hvv] at this
    exact this
  have V3 : Vals es v (negP ps) := by
    have := Vals.of (es := es) (ps := negP ps) s.scl.nrm (nm (by unfold negP; rw [nrmP_names h.sclN.nz, scl_names]))
    rw [hvv] at this
    exact this
  have r1 := law_value_run (n + 4) (c := c) h.few V
  have r2 := is_true_run n (c := c) h V
  have r3 := is_true_run n (c := nrmC c ps) h.nrm V2
  have r4 := is_true_run n (c := negC c ps) h.sclN.nrm V3
  have e3 : decide (0 ≤ val (nrmC c ps) (nrmP ps) v) = decide (0 ≤ val c ps v) := by simp only [val_nrm v h.nz]
  have e4 : decide (0 ≤ val (negC c ps) (negP ps) v) = !decide (0 ≤ val c ps v) := by
    have := val_neg (c := c) v h.nz
    by_cases hh : 0 ≤ val c ps v
    · simp [this, hh]
    · simp [this, hh]
  rw [e3] at r3
  have r4' : run P (n + 5) 124 [atm (negC c ps) (negP ps), .dict (strE es)] = .ok (.bool (!decide (0 ≤ val c ps v))) := by rw [← e4]; exact r4
  have r2' : run P (n + 5) 124 [.tuple [.str "least", frm c ps], .dict (strE es)] = .ok (.bool (decide (0 ≤ val c ps v))) := r2
  have hne : ∀ b : Bool, neD (.list [.bool b, .bool b, .bool (!b)]) (.list [.bool b, .bool b, .bool (!b)]) = .ok (.bool false) := fun b => by cases b <;> rfl
  have hall : ∀ b : Bool, (noxO (lcL (turnD (.nm 14) (evW (run P (n + 5)) .no) (ev (run P (n + 5)) (.isi (.varB 14) "bool")) [o0, o1, o2, o3, some (false, frm c ps), o5, o6, o7, some (false, atm (nrmC c ps) (nrmP ps)), some (false, atm (negC c ps) (negP ps)), some (false, row), some (false, .dict (strE es)), some (false, .bool b), some (true, .list [.bool b, .bool b, .bool (!b)]), none]) [.bool b, .bool b, .bool (!b)])).bind lstD = .ok (.list [.bool true, .bool true, .bool true]) := fun b => by
    simp [lcL, turnD, consO]
  have hal : allF (.list [.bool true, .bool true, .bool true]) = .ok (.bool true) := rfl
  have hg : geD (.int (val c ps v)) (.int 0) = .ok (.bool (decide (0 ≤ val c ps v))) := rfl
  generalize decide (0 ≤ val c ps v) = b at r2' r3 r4' hg
  refine ⟨some (false, .bool b), some (true, .list [.bool b, .bool b, .bool (!b)]), o14, ?_⟩
  simp -implicitDefEqProofs only [bPt, exs_cons, ex_set, ev_cmp, ev_call, evs_cons, ev_var, getV_s, getV_0, evs_nil, ok_bind, r1, ev_lit, o_ge, hg, ok_st, nx_seq, List.set_cons_succ, List.set_cons_zero, ex_setF, ev_lst, ev_tup, tupD_2, r2', r3, r4', lstD_3, ex_ite, evT_or, evT_cmp, ev_varB, getB_s, getB_0, ev_not, truthD_bool, o_ne, hne, boolD_bool, Bool.false_eq_true, if_false, evT_not, evT_tr, ev_bi, ev_lc, evI_pl, items_list, wipe_cons, wipe_nil, hall, bf_all, hal, Bool.not_true, exs_nil]
theorem head_ok (n : Nat) {k : Nat} (hk : k < 8) : ∃ x : PySem.Str, Nms x ∧ 1 ≤ x.length ∧ x.length ≤ 3 ∧ ∀ ρ : Rho, getB ρ 2 = .ok (.int (k : Nat)) → ex (run P n) (.set 3 (.idx (.lst (.cons (.lit (.str "abc")) (.cons (.lit (.str "ab")) (.cons (.lit (.str "a")) (.cons (.lit (.str "bc")) (.cons (.lit (.str "abc")) (.cons (.lit (.str "c")) (.cons (.lit (.str "ab")) (.cons (.lit (.str "abc")) .nil))))))))) (.varB 2))) ρ = .nx (ρ.set 3 (some (false, .str x))) := by
  obtain ⟨x, h1, h2, h3, h4⟩ := turns_ok k hk
  refine ⟨x, h2, h3, h4, fun ρ hρ => ?_⟩
  have hi := idx_list (ds := turns.map PyData.str) (i := k) (d := .str x) (by rw [List.getElem?_map, h1]; rfl)
  have hl : lstD (turns.map PyData.str) = .ok (.list (turns.map PyData.str)) := lstD_ok (by show 8 ≤ sizeLine; decide)
  have e : turns.map PyData.str = [.str "abc", .str "ab", .str "a", .str "bc", .str "abc", .str "c", .str "ab", .str "abc"] := rfl
  rw [e] at hi hl
  simp -implicitDefEqProofs only [ex_set, ev_idx, ev_lst, evs_cons, ev_lit, evs_nil, ok_bind, hl, ev_varB, hρ, hi, ok_st]
def sForm : S := (.asg (.tup [(.nm 4), (.nm 5)]) (.tup (.cons (.call 109 (.cons (.var 1) (.cons (.bin .mul (.lit (.int 9)) (.varB 2)) (.cons (.var 3) .nil)))) (.cons (.bin .add (.lit (.int 1)) (.bin .mod (.bi .int (.cons (.idx (.varB 1) (.bin .add (.lit (.int 70)) (.varB 2))) .nil)) (.lit (.int 4)))) .nil))))
def sForm2 : S := (.set 4 (.tup (.cons (.bin .add (.idx (.varB 4) (.lit (.int 0))) (.bin .mod (.bi .int (.cons (.idx (.varB 1) (.varB 2)) .nil)) (.lit (.int 5)))) (.cons (.bi .tuple (.cons (.lc (.tup [(.nm 6), (.nm 7)]) (.pl (.idx (.varB 4) (.lit (.int 1)))) .no (.tup (.cons (.var 6) (.cons (.bin .mul (.varB 5) (.varB 7)) .nil))) [6, 7]) .nil)) .nil))))
theorem form_ok (n : Nat) {ds : List Int} (hd : ds.length = 80) (hp : ∀ d ∈ ds, 0 ≤ d) {x : PySem.Str} (hx : Nms x) {k : Nat} (hk : k < 8) (o0 o4 o5 o6 o7 o8 o9 o10 o11 o12 o13 o14 : Option (Bool × D)) :
    ∃ (c : Int) (ps : Ps) (sz : Int), VF ps ∧ Sm ps ∧ (∀ p ∈ ps, ∃ c ∈ x.cps.toList, p.1 = nmOf c) ∧ ((ex (run P (n + 1)) sForm [o0, some (false, nums ds), some (false, .int (k : Nat)), some (false, .str x), o4, o5, o6, o7, o8, o9, o10, o11, o12, o13, o14]).seq fun ρ => ex (run P (n + 1)) sForm2 ρ) =
      .nx [o0, some (false, nums ds), some (false, .int (k : Nat)), some (false, .str x), some (false, frm c ps), some (false, .int sz), o6, o7, o8, o9, o10, o11, o12, o13, o14] := by
  obtain ⟨c, ps, h1, h2, h3, h4⟩ := law_form_run n (ds := ds) (at_ := 9 * k) (x := x) (by omega) hx
  obtain ⟨d1, hd1, _, i1⟩ := idx_get (f := PyData.int) (xs := ds) (i := 70 + (k : Nat)) (by omega) (by omega)
  obtain ⟨d2, hd2, _, i2⟩ := idx_get (f := PyData.int) (xs := ds) (i := (k : Nat)) (by omega) (by omega)
  have hp1 := hp d1 hd1
  generalize hsz : 1 + d1 % 4 = sz
  have hs1 : 1 ≤ sz ∧ sz ≤ 4 := by omega
  have vf := h2.scl (k := sz) (by omega)
  refine ⟨c + d2 % 5, scl sz ps, sz, vf, fun p hp => ?_, fun p hp => ?_, ?_⟩
  · obtain ⟨q, hq, rfl⟩ := List.mem_map.mp hp
    obtain ⟨a1, a2⟩ := h3 q hq
    have b1 : sz * q.2 ≤ 12 := by
      have : sz * q.2 ≤ sz * 3 := Int.mul_le_mul_of_nonneg_left a2 (by omega)
      omega
    have b2 : -12 ≤ sz * q.2 := by
      have : sz * (-3) ≤ sz * q.2 := Int.mul_le_mul_of_nonneg_left a1 (by omega)
      omega
    show (sz * q.2).natAbs < 2 ^ 64
    omega
  · obtain ⟨q, hq, rfl⟩ := List.mem_map.mp hp
    exact h4 q hq
  · have hm9 : mulD (.int 9) (.int (k : Nat)) = .ok (.int ((9 * k : Nat) : Int)) := by
      rw [mul_small (.inl (by decide))]
      congr 2
    have hz : smallI sz = true := small_of (by omega) (by omega)
    have hlc : (noxO (lcL (turnD (.tup [.nm 6, .nm 7]) (evW (run P (n + 1)) .no) (ev (run P (n + 1)) (.tup (.cons (.var 6) (.cons (.bin .mul (.varB 5) (.varB 7)) .nil)))) [o0, some (false, .list (ds.map .int)), some (false, .int (k : Nat)), some (false, .str x), some (false, .tuple [.int c, .tuple (ps.map pr)]), some (false, .int sz), none, none, o8, o9, o10, o11, o12, o13, o14]) (ps.map pr))).bind lstD = .ok (.list ((scl sz ps).map pr)) := by
      unfold LW.scl
      rw [List.map_map]
      refine lcs (lcL_of fun p hp => ?_) (by rw [List.length_map]; exact len40 h2.few)
      simp [turnD, pr, mul_small (.inl hz)]
    simp only [nums] at h1 ⊢
    simp only [frm] at h1 ⊢
    simp -implicitDefEqProofs only [sForm, sForm2, ex_asg, ev_tup, evs_cons, ev_call, ev_var, getV_s, getV_0, ev_bin, ev_lit, ev_varB, getB_s, getB_0, evs_nil, ok_bind, f_mul, hm9, h1, f_add, f_mod, ev_bi, ev_idx, addD_int, i1, bf_int, int_int, mod_pos (i := d1) (j := 4) (by decide), hsz, tupD_2, ok_st, bindS_eq, bindT_tup, bindTs_cons, bindT_nm, Option.bind_some, bindTs_nil, List.set_cons_succ, List.set_cons_zero, nx_seq, ex_set, idx_t0, idx_t1, i2, mod_pos (i := d2) (j := 5) (by decide), ev_lc, evI_pl, items_tup, wipe_cons, wipe_nil, hlc, bf_tuple, tuple_list]
/-- the tests of one turn -/
def sTests : Ss := (.cons (.set 8 (.call 118 (.cons (.var 4) .nil)))
  (.cons (.ite (.or (.cmp .ne (.idx (.varB 8) (.lit (.int 0))) (.lit (.str "least"))) (.or (.not (.tr (.call 86 (.cons (.idx (.varB 8) (.lit (.int 1))) .nil)))) (.and (.cmp .gt (.bi .len (.cons (.idx (.varB 4) (.lit (.int 1))) .nil)) (.lit (.int 0))) (.cmp .ne (.call 154 (.cons (.lc (.tup [(.nm 6), (.nm 7)]) (.pl (.idx (.idx (.varB 8) (.lit (.int 1))) (.lit (.int 1)))) .no (.var 7) [6, 7]) .nil)) (.lit (.int 1))))))
  (.cons (.ret (.lit (.bool false)))
  .nil)
  .nil)
  (.cons (.ite (.or (.and (.cmp .eq (.bi .len (.cons (.idx (.varB 4) (.lit (.int 1))) .nil)) (.lit (.int 0))) (.cmp .ne (.varB 8) (.ite (.cmp .ge (.idx (.varB 4) (.lit (.int 0))) (.lit (.int 0))) (.lit (.tuple [(.str "least"), (.tuple [(.int 0), (.tuple [])])])) (.lit (.tuple [(.str "least"), (.tuple [(.int (-1)), (.tuple [])])]))))) (.cmp .ne (.call 118 (.cons (.idx (.varB 8) (.lit (.int 1))) .nil)) (.varB 8)))
  (.cons (.ret (.lit (.bool false)))
  .nil)
  .nil)
  (.cons (.set 9 (.call 122 (.cons (.tup (.cons (.lit (.str "least")) (.cons (.var 4) .nil))) .nil)))
  (.cons (.ite (.or (.cmp .ne (.call 122 (.cons (.var 8) .nil)) (.varB 9)) (.cmp .ne (.call 122 (.cons (.var 9) .nil)) (.varB 8)))
  (.cons (.ret (.lit (.bool false)))
  .nil)
  .nil)
  (.cons (.for_ (.tup [(.nm 10), (.nm 11)]) (.pl (.call 111 (.cons (.var 3) (.cons (.bin .mul (.tup (.cons (.tup (.cons (.neg (.lit (.int 4))) (.cons (.lit (.int 4)) .nil))) .nil)) (.bi .len (.cons (.varB 3) .nil))) .nil))))
  bPt)
  .nil))))))
theorem true_atm : (PyData.tuple [.str "least", .tuple [.int 0, .tuple []]]) = atm 0 [] := rfl
theorem never_atm : (PyData.tuple [.str "least", .tuple [.int (-1), .tuple []]]) = atm (-1) [] := rfl
theorem tests_ok (n : Nat) {c : Int} {ps : Ps} (h : VF ps) (s : Sm ps) {x : PySem.Str} (hx : Nms x) (hx1 : 1 ≤ x.length) (hx3 : x.length ≤ 3) (hn : ∀ p ∈ ps, ∃ c ∈ x.cps.toList, p.1 = nmOf c) (o0 o1 o2 o5 o6 o7 o8 o9 o10 o11 o12 o13 o14 : Option (Bool × D)) :
    ∃ o8' o9' o10' o11' o12' o13' o14', exs (run P (n + 5)) sTests [o0, o1, o2, some (false, .str x), some (false, frm c ps), o5, o6, o7, o8, o9, o10, o11, o12, o13, o14] =
      .nx [o0, o1, o2, some (false, .str x), some (false, frm c ps), o5, o6, o7, o8', o9', o10', o11', o12', o13', o14'] := by
  have r1 := normal_run (n + 1) (c := c) h s
  have r2 := is_form_run (n + 3) (c := nrmC c ps) h.nrm
  have r3 := normal_run (n + 1) (c := nrmC c ps) h.nrm s.nrm
  rw [(nrm_nrm (c := c) h.nz).1, (nrm_nrm (c := c) h.nz).2] at r3
  have r4 := negated_run n (c := c) h s
  have r5 := negated_run n (c := nrmC c ps) h.nrm s.nrm
  rw [(neg_nrm (c := c) h.nz).1, (neg_nrm (c := c) h.nz).2] at r5
  have r6 := negated_run n (c := negC c ps) (ps := negP ps) h.sclN.nrm s.scl.nrm
  rw [(neg_neg (c := c) h.nz).1, (neg_neg (c := c) h.nz).2] at r6
  obtain ⟨L, r7, hL⟩ := law_points_run (n + 4) (x := x) (lo := -4) (hi := 4) hx (by decide) (by decide) (by
    have : x.length = 1 ∨ x.length = 2 ∨ x.length = 3 := by omega
    rcases this with e | e | e <;> rw [e] <;> decide) (by decide)
  have r8 := law_divisor_run (n + 4) ((nrmP ps).map (·.2))
  rw [gcd_factors] at r8
  have hlen : lenF (.str x) = .ok (.int (x.length : Nat)) := by
    show (if x.length ≤ sizeLine then Out.ok (PyData.int x.length) else .stuck) = _
    rw [if_pos hx.sz]
  have hbox : mulD (.tuple [.tuple [.int (-4), .int 4]]) (.int (x.length : Nat)) = .ok (.tuple (List.replicate x.length (.tuple [.int (-4), .int 4]))) := by
    have : x.length = 1 ∨ x.length = 2 ∨ x.length = 3 := by omega
    rcases this with e | e | e <;> rw [e] <;> rfl
  have hlc : ∀ (p4 : D) (o8 o9 : Option (Bool × D)), (noxO (lcL (turnD (.tup [.nm 6, .nm 7]) (evW (run P (n + 5)) .no) (ev (run P (n + 5)) (.var 7)) [o0, o1, o2, some (false, .str x), some (false, p4), o5, none, none, o8, o9, o10, o11, o12, o13, o14]) ((nrmP ps).map pr))).bind lstD = .ok (.list (((nrmP ps).map (·.2)).map .int)) := fun p4 o8 o9 => by
    rw [List.map_map]
    refine lcs (lcL_of fun p hp => ?_) (by rw [List.length_map]; exact len40 h.nrm.few)
    simp [turnD, pr]
  have pts : ∀ o10 o11 o12 o13 o14 : Option (Bool × D), ∃ o10' o11' o12' o13' o14', forL (.tup [.nm 10, .nm 11]) (exs (run P (n + 5)) bPt) L [o0, o1, o2, some (false, .str x), some (false, frm c ps), o5, o6, o7, some (false, atm (nrmC c ps) (nrmP ps)), some (false, atm (negC c ps) (negP ps)), o10, o11, o12, o13, o14] =
      .nx [o0, o1, o2, some (false, .str x), some (false, frm c ps), o5, o6, o7, some (false, atm (nrmC c ps) (nrmP ps)), some (false, atm (negC c ps) (negP ps)), o10', o11', o12', o13', o14'] := fun o10 o11 o12 o13 o14 => by
    obtain ⟨ρ', e, p10, p11, p12, p13, p14, hρ⟩ := forL_idx (t := .tup [.nm 10, .nm 11]) (fb := exs (run P (n + 5)) bPt)
      (fun k ρ => ∃ o10' o11' o12' o13' o14', ρ = [o0, o1, o2, some (false, .str x), some (false, frm c ps), o5, o6, o7, some (false, atm (nrmC c ps) (nrmP ps)), some (false, atm (negC c ps) (negP ps)), o10', o11', o12', o13', o14'])
      (ds := L) (ρ := [o0, o1, o2, some (false, .str x), some (false, frm c ps), o5, o6, o7, some (false, atm (nrmC c ps) (nrmP ps)), some (false, atm (negC c ps) (negP ps)), o10, o11, o12, o13, o14]) ⟨_, _, _, _, _, rfl⟩
      (fun k d ρ hd ⟨q10, q11, q12, q13, q14, hρ⟩ => by
        subst hρ
        obtain ⟨row, es, rfl, hes⟩ := hL d (List.mem_of_getElem? hd)
        obtain ⟨q12', q13', q14', e⟩ := point_ok n (c := c) (es := es) h s (fun p hp => by obtain ⟨ch, h1, h2⟩ := hn p hp; rw [h2]; exact hes ch h1) row o0 o1 o2 (some (false, .str x)) o5 o6 o7 q12 q13 q14
        exact ⟨_, _, rfl, .inl e, _, _, _, _, _, rfl⟩)
    subst hρ
    exact ⟨p10, p11, p12, p13, p14, e⟩
  obtain ⟨p10, p11, p12, p13, p14, hp⟩ := pts o10 o11 o12 o13 o14
  refine ⟨some (false, atm (nrmC c ps) (nrmP ps)), some (false, atm (negC c ps) (negP ps)), p10, p11, p12, p13, p14, ?_⟩
  have e1 : frm c ps = .tuple [.int c, .tuple (ps.map pr)] := rfl
  have e2 : atm (nrmC c ps) (nrmP ps) = .tuple [.str "least", frm (nrmC c ps) (nrmP ps)] := rfl
  have e2' : frm (nrmC c ps) (nrmP ps) = .tuple [.int (nrmC c ps), .tuple ((nrmP ps).map pr)] := rfl
  have hleast : neD (.str "least") (.str "least") = .ok (.bool false) := rfl
  have i0 : idxD (atm (nrmC c ps) (nrmP ps)) (.int 0) = .ok (.str "least") := by rw [e2, idx_t0]
  have i1 : idxD (atm (nrmC c ps) (nrmP ps)) (.int 1) = .ok (frm (nrmC c ps) (nrmP ps)) := by rw [e2, idx_t1]
  have i2 : idxD (frm (nrmC c ps) (nrmP ps)) (.int 1) = .ok (.tuple ((nrmP ps).map pr)) := by rw [e2', idx_t1]
  have i3 : idxD (frm c ps) (.int 1) = .ok (.tuple (ps.map pr)) := by rw [e1, idx_t1]
  have i4 : idxD (frm c ps) (.int 0) = .ok (.int c) := by rw [e1, idx_t0]
  have r4' : run P (n + 5) 122 [.tuple [.str "least", frm c ps]] = .ok (atm (negC c ps) (negP ps)) := r4
  have hps : ps = [] ∨ (0 < ps.length ∧ gcdL (nrmP ps) = 1) := by
    rcases nrmP_gcd h.nz with h0 | h0
    · exact .inl h0
    · by_cases hz : ps = []
      · exact .inl hz
      · exact .inr ⟨List.length_pos_iff.mpr hz, h0⟩
  -- the first test
  have t1 : ∀ (o9 : Option (Bool × D)), evT (run P (n + 5)) (.or (.cmp .ne (.idx (.varB 8) (.lit (.int 0))) (.lit (.str "least"))) (.or (.not (.tr (.call 86 (.cons (.idx (.varB 8) (.lit (.int 1))) .nil)))) (.and (.cmp .gt (.bi .len (.cons (.idx (.varB 4) (.lit (.int 1))) .nil)) (.lit (.int 0))) (.cmp .ne (.call 154 (.cons (.lc (.tup [(.nm 6), (.nm 7)]) (.pl (.idx (.idx (.varB 8) (.lit (.int 1))) (.lit (.int 1)))) .no (.var 7) [6, 7]) .nil)) (.lit (.int 1))))))
      [o0, o1, o2, some (false, .str x), some (false, frm c ps), o5, o6, o7, some (false, atm (nrmC c ps) (nrmP ps)), o9, o10, o11, o12, o13, o14] = .ok false := fun o9 => by
    simp -implicitDefEqProofs only [evT_or, evT_cmp, ev_idx, ev_varB, getB_s, getB_0, ok_bind, ev_lit, i0, o_ne, hleast, boolD_bool, Bool.false_eq_true, if_false, evT_not, evT_tr, ev_call, evs_cons, i1, evs_nil, r2, truthD_bool, Bool.not_true, evT_and, ev_bi, i3, bf_len, len_tup, List.length_map, o_gt, gtD_int, ev_lc, evI_pl, i2, items_tup, wipe_cons, wipe_nil, List.set_cons_succ, List.set_cons_zero, hlc, r8]
    rcases hps with h0 | ⟨h0, h1⟩
    · subst h0
      rfl
    · have h2 : decide ((0 : Int) < ((ps.length : Nat) : Int)) = true := decide_eq_true (by omega)
      rw [h2, h1]
      rfl
  have t2 : ∀ (o9 : Option (Bool × D)), evT (run P (n + 5)) (.or (.and (.cmp .eq (.bi .len (.cons (.idx (.varB 4) (.lit (.int 1))) .nil)) (.lit (.int 0))) (.cmp .ne (.varB 8) (.ite (.cmp .ge (.idx (.varB 4) (.lit (.int 0))) (.lit (.int 0))) (.lit (.tuple [(.str "least"), (.tuple [(.int 0), (.tuple [])])])) (.lit (.tuple [(.str "least"), (.tuple [(.int (-1)), (.tuple [])])]))))) (.cmp .ne (.call 118 (.cons (.idx (.varB 8) (.lit (.int 1))) .nil)) (.varB 8)))
      [o0, o1, o2, some (false, .str x), some (false, frm c ps), o5, o6, o7, some (false, atm (nrmC c ps) (nrmP ps)), o9, o10, o11, o12, o13, o14] = .ok false := fun o9 => by
    simp -implicitDefEqProofs only [evT_or, evT_and, evT_cmp, ev_bi, evs_cons, ev_idx, ev_varB, getB_s, getB_0, ok_bind, ev_lit, i3, evs_nil, bf_len, len_tup, List.length_map, o_eq, eqD_int, boolD_bool, ev_ite, i4, o_ge, geD_int, o_ne, ev_call, i1, r3, ne_atm]
    rcases hps with h0 | ⟨h0, h1⟩
    · subst h0
      have e3 : nrmP ([] : Ps) = [] := rfl
      have e4 : nrmC c ([] : Ps) = if 0 ≤ c then 0 else -1 := rfl
      by_cases hc : 0 ≤ c
      · have e5 : nrmC c ([] : Ps) = 0 := by rw [e4, if_pos hc]
        have hc' : decide (0 ≤ c) = true := decide_eq_true hc
        rw [e3, e5]
        simp only [hc', if_true, ok_bind, true_atm, ne_atm]
        rfl
      · have e5 : nrmC c ([] : Ps) = -1 := by rw [e4, if_neg hc]
        have hc' : decide (0 ≤ c) = false := decide_eq_false hc
        rw [e3, e5]
        simp only [hc', Bool.false_eq_true, if_false, ok_bind, never_atm, ne_atm]
        rfl
    · have h2 : (((ps.length : Nat) : Int) == 0) = false := by
        simp only [beq_eq_false_iff_ne]
        omega
      rw [h2]
      rfl
  have hneg : negD (.int 4) = .ok (.int (-4)) := rfl
  have e4' : (PyData.tuple [.str "least", frm c ps]) = atm c ps := rfl
  simp -implicitDefEqProofs only [sTests, exs_cons, ex_set, ev_call, evs_cons, ev_var, getV_s, getV_0, evs_nil, ok_bind, r1, ok_st, nx_seq, List.set_cons_succ, List.set_cons_zero, ex_ite, t1, Bool.false_eq_true, if_false, exs_nil, t2, ev_tup, ev_lit, tupD_2, r4', evT_or, evT_cmp, ev_varB, getB_s, getB_0, r5, o_ne, ne_atm, boolD_bool, r6, ex_for, evI_pl, ev_bin, ev_neg, hneg, tupD_1, ev_bi, bf_len, hlen, f_mul, hbox, r7, items_list, hp]
def bTurn : Ss := (.cons (.set 3 (.idx (.lst (.cons (.lit (.str "abc")) (.cons (.lit (.str "ab")) (.cons (.lit (.str "a")) (.cons (.lit (.str "bc")) (.cons (.lit (.str "abc")) (.cons (.lit (.str "c")) (.cons (.lit (.str "ab")) (.cons (.lit (.str "abc")) .nil))))))))) (.varB 2))) (.cons sForm (.cons sForm2 sTests)))
theorem sm_of {ps : Ps} (h : ps.all (fun p => decide (p.2.natAbs < 2 ^ 64)) = true) : Sm ps := fun p hp => by
  have := List.all_eq_true.1 h p hp
  exact of_decide_eq_true this
theorem vf_of {ps : Ps} (h1 : ∀ p ∈ ps, p.1 = nmOf 97 ∨ p.1 = nmOf 98) (h2 : ∀ p ∈ ps, p.2 ≠ 0) (h3 : (ps.map (·.1)).Pairwise fun a b => ltS a b = true) (h4 : ps.length ≤ 40) : VF ps where
  nm := fun p hp => by
    rcases h1 p hp with e | e <;> rw [e]
    · exact ok_a
    · exact ok_b
  nz := h2
  asc := h3
  few := h4
theorem law_run (n : Nat) {ns : List Int} (hl : ns.length ≤ 63) : run P (n + 6) 155 [nums ns] = .ok (.bool true) := by
  obtain ⟨ds, r1, hd, hp⟩ := draws_run (n + 4) (ns := ns) (many := 80) (by decide) hl
  have one : ∀ k, k < 8 → ∀ o3 o4 o5 o6 o7 o8 o9 o10 o11 o12 o13 o14 : Option (Bool × D), ∃ q3 q4 q5 q6 q7 q8 q9 q10 q11 q12 q13 q14, exs (run P (n + 5)) bTurn [some (false, nums ns), some (false, nums ds), some (false, .int (k : Nat)), o3, o4, o5, o6, o7, o8, o9, o10, o11, o12, o13, o14] =
      .nx [some (false, nums ns), some (false, nums ds), some (false, .int (k : Nat)), q3, q4, q5, q6, q7, q8, q9, q10, q11, q12, q13, q14] := by
    intro k hk o3 o4 o5 o6 o7 o8 o9 o10 o11 o12 o13 o14
    obtain ⟨x, hx, hx1, hx3, h1⟩ := head_ok (n + 5) hk
    have h1' := h1 [some (false, nums ns), some (false, nums ds), some (false, .int (k : Nat)), o3, o4, o5, o6, o7, o8, o9, o10, o11, o12, o13, o14] rfl
    obtain ⟨c, ps, sz, hv, hs, hn, h2⟩ := form_ok (n + 4) hd hp hx hk (some (false, nums ns)) o4 o5 o6 o7 o8 o9 o10 o11 o12 o13 o14
    obtain ⟨q8, q9, q10, q11, q12, q13, q14, h3⟩ := tests_ok n (c := c) hv hs hx hx1 hx3 hn (some (false, nums ns)) (some (false, nums ds)) (some (false, .int (k : Nat))) (some (false, .int sz)) o6 o7 o8 o9 o10 o11 o12 o13 o14
    refine ⟨some (false, .str x), some (false, frm c ps), some (false, .int sz), o6, o7, q8, q9, q10, q11, q12, q13, q14, ?_⟩
    simp only [bTurn, exs_cons, h1', nx_seq, List.set_cons_succ, List.set_cons_zero]
    cases e : ex (run P (n + 5)) sForm [some (false, nums ns), some (false, nums ds), some (false, .int (k : Nat)), some (false, .str x), o4, o5, o6, o7, o8, o9, o10, o11, o12, o13, o14] with
    | nx ρ =>
      rw [e] at h2
      have h2 : ex (run P (n + 5)) sForm2 ρ = _ := h2
      rw [nx_seq, exs_cons, h2, nx_seq]
      exact h3
    | _ =>
      rw [e] at h2
      cases h2
  obtain ⟨ρ', e, q2, q3, q4, q5, q6, q7, q8, q9, q10, q11, q12, q13, q14, hρ⟩ := forL_range (t := .nm 2) (fb := exs (run P (n + 5)) bTurn)
    (fun k ρ => ∃ q2 q3 q4 q5 q6 q7 q8 q9 q10 q11 q12 q13 q14, ρ = [some (false, nums ns), some (false, nums ds), q2, q3, q4, q5, q6, q7, q8, q9, q10, q11, q12, q13, q14])
    (n := 8) (ρ := [some (false, nums ns), some (false, nums ds), none, none, none, none, none, none, none, none, none, none, none, none, none]) ⟨_, _, _, _, _, _, _, _, _, _, _, _, _, rfl⟩
    (fun k ρ hk ⟨q2, q3, q4, q5, q6, q7, q8, q9, q10, q11, q12, q13, q14, hρ⟩ => by
      subst hρ
      obtain ⟨p3, p4, p5, p6, p7, p8, p9, p10, p11, p12, p13, p14, e⟩ := one k hk q3 q4 q5 q6 q7 q8 q9 q10 q11 q12 q13 q14
      exact ⟨_, _, rfl, .inl e, _, p3, p4, p5, p6, p7, p8, p9, p10, p11, p12, p13, p14, rfl⟩)
  subst hρ
  have hr : range1D [.int 8] = .ok (rangeI 0 8) := by
    have : okR 8 = true := by decide
    simp [range1D, this]
  have v1 : VF [(nmOf 97, 3), (nmOf 98, -6)] := vf_of (by simp) (by simp) (by decide +kernel) (by decide)
  have v2 : VF [(nmOf 97, 3)] := vf_of (by simp) (by simp) (by decide +kernel) (by decide)
  have v3 : VF [(nmOf 97, 2)] := vf_of (by simp) (by simp) (by decide +kernel) (by decide)
  have v4 : VF [] := vf_of (by simp) (by simp) (by decide +kernel) (by decide)
  have v5 : VF [(nmOf 97, 10 ^ 19)] := vf_of (by simp) (by decide +kernel) (by decide +kernel) (by decide)
  have a1 := normal_run (n + 1) (c := 5) v1 (sm_of (by kernel_rfl))
  have a2 := normal_run (n + 1) (c := -5) v2 (sm_of (by kernel_rfl))
  have a3 := negated_run n (c := 0) v3 (sm_of (by kernel_rfl))
  have a4 := negated_run n (c := 0) v4 (sm_of (by kernel_rfl))
  have a5 := normal_run (n + 1) (c := 10 ^ 20) v5 (sm_of (by kernel_rfl))
  have b1 : atm (nrmC 5 [(nmOf 97, 3), (nmOf 98, -6)]) (nrmP [(nmOf 97, 3), (nmOf 98, -6)]) = atm 1 [(nmOf 97, 1), (nmOf 98, -2)] := by kernel_rfl
  have b2 : atm (nrmC (-5) [(nmOf 97, 3)]) (nrmP [(nmOf 97, 3)]) = atm (-2) [(nmOf 97, 1)] := by kernel_rfl
  have b3 : atm (negC 0 [(nmOf 97, 2)]) (negP [(nmOf 97, 2)]) = atm (-1) [(nmOf 97, -1)] := by kernel_rfl
  have b4 : atm (negC 0 []) (negP []) = atm (-1) [] := by kernel_rfl
  have b5 : atm (nrmC (10 ^ 20) [(nmOf 97, 10 ^ 19)]) (nrmP [(nmOf 97, 10 ^ 19)]) = atm 10 [(nmOf 97, 1)] := by kernel_rfl
  rw [b1] at a1
  rw [b2] at a2
  rw [b3] at a3
  rw [b4] at a4
  rw [b5] at a5
  have ha : nmOf 97 = "a" := by kernel_rfl
  have hb : nmOf 98 = "b" := by kernel_rfl
  rw [ha, hb] at a1
  rw [ha] at a2 a3 a5
  simp only [atm, frm, pr, List.map_cons, List.map_nil] at a1 a2 a3 a4 a5
  have n1 : neD (.tuple [.str "least", .tuple [.int 0, .tuple []]]) (.tuple [.str "least", .tuple [.int 0, .tuple []]]) = .ok (.bool false) := ne_atm 0 []
  have n2 : neD (.tuple [.str "least", .tuple [.int (-1), .tuple []]]) (.tuple [.str "least", .tuple [.int (-1), .tuple []]]) = .ok (.bool false) := ne_atm (-1) []
  have n2' : eqD (.tuple [.str "least", .tuple [.int (-1), .tuple []]]) (.tuple [.str "least", .tuple [.int (-1), .tuple []]]) = .ok (.bool true) := eq_atm (-1) []
  have n3 : neD (.tuple [.str "least", .tuple [.int 1, .tuple [.tuple [.str "a", .int 1], .tuple [.str "b", .int (-2)]]]]) (.tuple [.str "least", .tuple [.int 1, .tuple [.tuple [.str "a", .int 1], .tuple [.str "b", .int (-2)]]]]) = .ok (.bool false) := ne_atm 1 [("a", 1), ("b", -2)]
  have n4 : neD (.tuple [.str "least", .tuple [.int (-2), .tuple [.tuple [.str "a", .int 1]]]]) (.tuple [.str "least", .tuple [.int (-2), .tuple [.tuple [.str "a", .int 1]]]]) = .ok (.bool false) := ne_atm (-2) [("a", 1)]
  have n5 : eqD (.tuple [.str "least", .tuple [.int (-1), .tuple [.tuple [.str "a", .int (-1)]]]]) (.tuple [.str "least", .tuple [.int (-1), .tuple [.tuple [.str "a", .int (-1)]]]]) = .ok (.bool true) := eq_atm (-1) [("a", -1)]
  have n6 : eqD (.tuple [.str "least", .tuple [.int 10, .tuple [.tuple [.str "a", .int 1]]]]) (.tuple [.str "least", .tuple [.int 10, .tuple [.tuple [.str "a", .int 1]]]]) = .ok (.bool true) := eq_atm 10 [("a", 1)]
  have g1 : negD (.int 1) = .ok (.int (-1)) := rfl
  have g6 : negD (.int 6) = .ok (.int (-6)) := rfl
  have g5 : negD (.int 5) = .ok (.int (-5)) := rfl
  have g2 : negD (.int 2) = .ok (.int (-2)) := rfl
  have p20 : powD (.int 10) (.int 20) = .ok (.int (10 ^ 20)) := pow_ok (by decide) (by decide) (by decide)
  have p19 : powD (.int 10) (.int 19) = .ok (.int (10 ^ 19)) := pow_ok (by decide) (by decide) (by decide)
  have r1' : run P (n + 5) 17 [nums ns, .int 80] = .ok (nums ds) := r1
  generalize (10 : Int) ^ 20 = t20 at a5 p20
  generalize (10 : Int) ^ 19 = t19 at a5 p19
  rw [run_at lk_law rfl]
  simp only [bTurn, sForm, sForm2, sTests, bPt] at e
  simp -implicitDefEqProofs only [c_law, rho0, List.map_cons, List.map_nil, List.length_cons, List.length_nil, List.replicate, List.cons_append, List.nil_append, exs_cons, ex_set, ev_call, evs_cons, ev_var, getV_0, getV_s, ev_lit, evs_nil, ok_bind, r1', ok_st, nx_seq, List.set_cons_succ, List.set_cons_zero, ex_ite, evT_or, evT_cmp, ev_tup, tupD_nil, tupD_1, tupD_2, o_ne, n1, boolD_bool, Bool.false_eq_true, if_false, ev_neg, g1, g2, g5, g6, n2, exs_nil, ex_for, evI_rg1, hr]
  rw [e]
  simp -implicitDefEqProofs only [nx_seq, exs_cons, ex_ite, evT_or, evT_cmp, ev_call, evs_cons, evs_nil, ev_tup, ev_lit, ok_bind, tupD_nil, tupD_1, tupD_2, ev_neg, g1, g2, g5, g6, a1, a2, a3, a4, o_ne, n3, n4, boolD_bool, Bool.false_eq_true, if_false, ok_st, exs_nil, ex_ret, ev_and, ev_cmp, o_eq, n5, truthD_bool, if_true, n2', ev_bin, f_pow, p20, p19, a5, n6, ret_seq, ret_fin]
theorem holds (ns : List Int) (hl : ns.length ≤ 63) : run P 12 155 [.list (ns.map .int)] = .ok (.bool true) := law_run 6 hl
end LW
namespace LQ
open PySem PySem.Spec PyProof.Rows L2
theorem P_ok : Mp.cFns 300 con fns ms = some LW.P := by kernel_rfl
abbrev R : PySem.W.OpenRow := PySem.W.OpenLaw.row PySem.Challenge.rw_pathstrue_k13_whole_atoms
def nm0 : List PySem.Str := ["PathError", "BadForm", "BadAtom", "Lacking", "LETTERS", "KEPT", "MOST_NAME", "ascends", "is_name", "MOST_PARTS", "is_integer", "is_form", "check_forms", "combined", "times", "names_by", "value_by", "check_there", "LEAST", "TRUE", "NEVER", "divisor", "normal_of", "normal", "is_atom", "check_atom", "negation_of", "negated", "is_so", "is_true"]
def nm1 : List PySem.Str := ["_law_draws", "_law_form", "_law_value", "_law_points", "_law_divisor"]
def names : List PySem.Str := nm0 ++ nm1
abbrev hk : PySem.W.Hook := Mp.hookM prg
def ob (s : PySem.W.SharedT) : He.AlD := Mp.obsMG prg (HandSHeadRun.getT s)
theorem ob_eq (s : PySem.W.SharedT) : ob s = hk.obs s.abs := Mp.obsMG_eq (HandSHeadRun.getT_eq s)
theorem run (w : World) : HandSHeadRun.RunEq R (PySem.W.view R.prog [40]) hk ob 3000 names w := by
  intro os
  kernel_rfl
end LQ
open PySem PySem.W PySem.Calls PyProof.Rows
theorem PySem.Challenge.cw_pathstrue_k13_whole_atoms_holds : PySem.Challenge.rw_pathstrue_k13_whole_atoms.Holds := by
  w_on; o_law
  refine HandSHeadRun.head_any (r := OpenLaw.row PySem.Challenge.rw_pathstrue_k13_whole_atoms) (q := view (OpenLaw.row PySem.Challenge.rw_pathstrue_k13_whole_atoms).prog [40]) (H := LQ.hk) (ob := LQ.ob) (M := 3000) (loose := LQ.names)
    (d := HandSHeadRun.topDef (OpenLaw.row PySem.Challenge.rw_pathstrue_k13_whole_atoms).prog 40) (kwd := []) LQ.ob_eq (by kernel_rfl) (fun s => by kernel_rfl) LQ.run (by kernel_rfl) (by kernel_rfl) (by kernel_rfl) (by rfl) (by first | assumption | decide +kernel) (by decide +kernel) ⟨rfl, rfl, rfl, rfl, rfl, by decide +kernel⟩ ?hw ?hc
  case hw => w_witness2
  case hc =>
    exact Mp.walk_law (l := PySem.Challenge.rw_pathstrue_k13_whole_atoms) (n := 63) (k := 12) (x := "script") (i := 155) (b := false) rfl (by decide) (by kernel_rfl) ⟨rfl, by decide, by decide⟩ LQ.P_ok (by kernel_rfl) (by kernel_rfl) LW.holds

