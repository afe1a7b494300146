import PyProof.Rows.All
import Wide.All
import OpenK.AllK
import Wide.FinOn
import HandS.ForMost
import HandS.More
import HandS.Deep
import HandS.TupAny
import HandS.SetFor
import HandS.SortInts
import HandS.DictComp
import HandS.DictTup
import HandS.IsInst
import HandS.Conv
import HandS.Codes
import HandS.WrittenGet
import HandS.Wide
import HandS.Flow
import HandS.TupLen
import KE.GoesEnum
import HandS.Defaults
import HandS.HeadHook2
import PyProof.DictUpdate
import HandS.Strs
import PyProof.DictMoreH
import HandS.TupLe
import HandS.Zip
import HandS.ExcOwn
import HandS.TryMany
import HandS.CallSlots
import HandS.HeadHook1
import HandS.ExcValue
import PyProof.TupleOfSeq
import KE.KDictCopyH
import HandS.Style
import HandS.Head0
import HandS.Head1
import HandS.Head2
import HandS.HeadEnd
import HandS.HeadHook3
import HandS.HeadHook4
import PySem.Challenge.RW_runforetold_k23_whole_first_unordered_pa
set_option Elab.async false
set_option linter.all false
set_option maxRecDepth 100000
set_option maxHeartbeats 4000000
namespace DL
open PySem PySem.Spec L2
/-- data: what a value is, wholly -/
inductive Dt where
  | non | bl (b : Bool) | int (i : Int) | str (s : Str) | tup (xs : List Dt) | lst (xs : List Dt)
  | dk (ks : List Key) (xs : List Dt) | dt (ks : List (List Key)) (xs : List Dt)
  /-- a tuple of the module's top -/
  | kt (xs : List Dt)
  /-- a list that is read, the module's top may have made it -/
  | kl (xs : List Dt)
  /-- this very value -/
  | val (v : V)
  /-- an instance that is not changed any more: its class, its fields -/
  | ins (C : Addr) (ns : List Str) (xs : List Dt)
  /-- any other object, by what is true of it, and what it refers to -/
  | on (f : Addr → List V → HO) (xs : List Dt)
/-- a tuple that the module's top made -/
def KTup (K : PySem.W.Frag) (a : Addr) (xs : List V) : Prop := ∃ (o : Obj) (its : Array Value) (n : Nat), K.lookup a = some o ∧ o.cls = .type "tuple" ∧ o.data = .seq its n ∧ its.size ≤ sizeLine ∧ Vals xs its.toList
/-- an object itself, not one held fast -/
def Bare : HO → Prop
  | .frz _ _ => False
  | _ => True
section
variable (K : PySem.W.Frag) (H : Hp)
mutual
def Has : Dt → V → Prop
  | .non, v => v = .non
  | .bl b, v => v = .bl b
  | .int i, v => v = .int i
  | .str s, v => v = .str s
  | .tup ds, v => ∃ a xs, v = .ref a ∧ H a = some (.tup xs) ∧ HasL ds xs
  | .lst ds, v => ∃ a xs, v = .ref a ∧ Rd H a (.lst xs) ∧ HasL ds xs
  | .dk ks ds, v => ∃ a xs, v = .ref a ∧ Rd H a (.dK (ks.zip xs)) ∧ ks.length = xs.length ∧ HasL ds xs
  | .dt ks ds, v => ∃ a xs, v = .ref a ∧ Rd H a (.dT (ks.zip xs)) ∧ ks.length = xs.length ∧ HasL ds xs
  | .kt ds, v => ∃ a xs, v = .ref a ∧ KTup K a xs ∧ HasL ds xs
  | .kl ds, v => ∃ a xs, v = .ref a ∧ SqL K H a xs ∧ HasL ds xs
  | .val u, v => v = u
  | .ins C ns ds, v => ∃ a dx xs, v = .ref a ∧ H a = some (.ins C dx (ns.zip xs)) ∧ ns.length = xs.length ∧ HasL ds xs
  | .on f ds, v => ∃ a xs, v = .ref a ∧ Bare (f a xs) ∧ Rd H a (f a xs) ∧ HasL ds xs
def HasL : List Dt → List V → Prop
  | [], vs => vs = []
  | d :: ds, vs => ∃ v r, vs = v :: r ∧ Has d v ∧ HasL ds r
end
end
/-- what never changes -/
def Fixed : HO → Prop
  | .tup _ => True
  | .ins _ _ _ => True
  | _ => False
/-- what may be read in H may be read in H' -/
structure RdLe (H H' : Hp) : Prop where
  rd : ∀ a u, Bare u → Rd H a u → Rd H' a u
  fx : ∀ a u, Fixed u → H a = some u → H' a = some u
theorem Same.rd {H H' : Hp} (e : Same H H') : RdLe H H' := by
  refine ⟨fun a u _ h => ?_, fun a u _ h => e _ _ h⟩
  rcases h with h | ⟨o, h⟩
  · exact .inl (e _ _ h)
  · exact .inr ⟨o, e _ _ h⟩
section
variable {K : PySem.W.Frag} {H H' : Hp}
mutual
theorem Has.monoR (e : RdLe H H') : ∀ {d : Dt} {v : V}, Has K H d v → Has K H' d v
  | .non, _, h => h
  | .bl _, _, h => h
  | .int _, _, h => h
  | .str _, _, h => h
  | .tup _, _, ⟨a, xs, h1, h2, h3⟩ => ⟨a, xs, h1, e.fx _ _ trivial h2, HasL.monoR e h3⟩
  | .lst _, _, ⟨a, xs, h1, h2, h3⟩ => ⟨a, xs, h1, e.rd _ _ trivial h2, HasL.monoR e h3⟩
  | .dk _ _, _, ⟨a, xs, h1, h2, hl, h3⟩ => ⟨a, xs, h1, e.rd _ _ trivial h2, hl, HasL.monoR e h3⟩
  | .dt _ _, _, ⟨a, xs, h1, h2, hl, h3⟩ => ⟨a, xs, h1, e.rd _ _ trivial h2, hl, HasL.monoR e h3⟩
  | .kt _, _, ⟨a, xs, h1, h2, h3⟩ => ⟨a, xs, h1, h2, HasL.monoR e h3⟩
  | .kl _, _, ⟨a, xs, h1, h2, h3⟩ => ⟨a, xs, h1, h2.elim (fun z => .inl (e.rd _ _ trivial z)) .inr, HasL.monoR e h3⟩
  | .val _, _, h => h
  | .ins _ _ _, _, ⟨a, dx, xs, h1, h2, hl, h3⟩ => ⟨a, dx, xs, h1, e.fx _ _ trivial h2, hl, HasL.monoR e h3⟩
  | .on _ _, _, ⟨a, xs, h1, hb, h2, h3⟩ => ⟨a, xs, h1, hb, e.rd _ _ hb h2, HasL.monoR e h3⟩
theorem HasL.monoR (e : RdLe H H') : ∀ {ds : List Dt} {vs : List V}, HasL K H ds vs → HasL K H' ds vs
  | [], _, h => h
  | _ :: _, _, ⟨v, r, h1, h2, h3⟩ => ⟨v, r, h1, Has.monoR e h2, HasL.monoR e h3⟩
end
theorem Has.mono {d : Dt} {v : V} (e : Same H H') (h : Has K H d v) : Has K H' d v := h.monoR (Same.rd e)
theorem HasL.mono {d : List Dt} {v : List V} (e : Same H H') (h : HasL K H d v) : HasL K H' d v := h.monoR (Same.rd e)
theorem HasL.len : ∀ {ds : List Dt} {vs : List V}, HasL K H ds vs → vs.length = ds.length
  | [], _, h => by
    have h : _ = [] := h
    subst h
    rfl
  | _ :: _, _, ⟨v, r, h1, _, h3⟩ => by
    subst h1
    rw [List.length_cons, List.length_cons, HasL.len h3]
theorem HasL.get : ∀ {ds : List Dt} {vs : List V} {i : Nat} {d : Dt}, HasL K H ds vs → ds[i]? = some d → ∃ v, vs[i]? = some v ∧ Has K H d v
  | [], _, _, _, _, e => by simp at e
  | _ :: _, _, 0, _, ⟨v, r, h1, h2, _⟩, e => by
    subst h1
    have e := Option.some.inj e
    subst e
    exact ⟨v, rfl, h2⟩
  | _ :: _, _, i + 1, _, ⟨v, r, h1, _, h3⟩, e => by
    subst h1
    obtain ⟨v', q, hv⟩ := HasL.get (i := i) h3 e
    exact ⟨v', q, hv⟩
theorem HasL.get' : ∀ {ds : List Dt} {vs : List V} {i : Nat} {v : V}, HasL K H ds vs → vs[i]? = some v → ∃ d, ds[i]? = some d ∧ Has K H d v
  | [], _, _, _, h, e => by
    have h : _ = [] := h
    subst h
    simp at e
  | _ :: _, _, 0, _, ⟨v, r, h1, h2, _⟩, e => by
    subst h1
    have e := Option.some.inj e
    subst e
    exact ⟨_, rfl, h2⟩
  | _ :: _, _, i + 1, _, ⟨v, r, h1, _, h3⟩, e => by
    subst h1
    obtain ⟨v', q, hv⟩ := HasL.get' (i := i) h3 e
    exact ⟨v', q, hv⟩
theorem HasL.snoc : ∀ {ds : List Dt} {vs : List V} {d : Dt} {v : V}, HasL K H ds vs → Has K H d v → HasL K H (ds ++ [d]) (vs ++ [v])
  | [], _, _, _, h, hv => by
    have h : _ = [] := h
    subst h
    exact ⟨_, [], rfl, hv, rfl⟩
  | _ :: _, _, _, _, ⟨w, r, h1, h2, h3⟩, hv => by
    subst h1
    exact ⟨w, _, rfl, h2, HasL.snoc h3 hv⟩
theorem HasL.app : ∀ {ds es : List Dt} {vs ws : List V}, HasL K H ds vs → HasL K H es ws → HasL K H (ds ++ es) (vs ++ ws)
  | [], _, _, _, h, hv => by
    have h : _ = [] := h
    subst h
    exact hv
  | _ :: _, _, _, _, ⟨w, r, h1, h2, h3⟩, hv => by
    subst h1
    exact ⟨w, _, rfl, h2, HasL.app h3 hv⟩
theorem HasL.drop : ∀ {ds : List Dt} {vs : List V} (n : Nat), HasL K H ds vs → HasL K H (ds.drop n) (vs.drop n)
  | _, _, 0, h => h
  | [], _, n + 1, h => by
    have h : _ = [] := h
    subst h
    rfl
  | _ :: _, _, n + 1, ⟨w, r, h1, h2, h3⟩ => by
    subst h1
    exact HasL.drop n h3
theorem HasL.take : ∀ {ds : List Dt} {vs : List V} (n : Nat), HasL K H ds vs → HasL K H (ds.take n) (vs.take n)
  | _, _, 0, h => rfl
  | [], _, n + 1, h => by
    have h : _ = [] := h
    subst h
    rfl
  | _ :: _, _, n + 1, ⟨w, r, h1, h2, h3⟩ => by
    subst h1
    exact ⟨w, _, rfl, h2, HasL.take n h3⟩
theorem HasL.set : ∀ {ds : List Dt} {vs : List V} (i : Nat) {d : Dt} {v : V}, HasL K H ds vs → Has K H d v → HasL K H (ds.set i d) (vs.set i v)
  | [], _, _, _, _, h, hv => by
    have h : _ = [] := h
    subst h
    rfl
  | _ :: _, _, 0, _, _, ⟨w, r, h1, h2, h3⟩, hv => by
    subst h1
    exact ⟨_, _, rfl, hv, h3⟩
  | _ :: _, _, i + 1, _, _, ⟨w, r, h1, h2, h3⟩, hv => by
    subst h1
    exact ⟨_, _, rfl, h2, HasL.set i h3 hv⟩
theorem HasL.reverse : ∀ {ds : List Dt} {vs : List V}, HasL K H ds vs → HasL K H ds.reverse vs.reverse
  | [], _, h => by
    have h : _ = [] := h
    subst h
    rfl
  | _ :: _, _, ⟨w, r, h1, h2, h3⟩ => by
    subst h1
    rw [List.reverse_cons, List.reverse_cons]
    exact HasL.snoc (HasL.reverse h3) h2
theorem HasL.ints : ∀ {ns : List Int} {vs : List V}, HasL K H (ns.map Dt.int) vs → vs = ns.map V.int
  | [], _, h => h
  | n :: ns, _, ⟨w, r, h1, h2, h3⟩ => by
    have h2 : w = .int n := h2
    rw [h1, h2, HasL.ints h3]
    rfl
theorem HasL.bls : ∀ {ns : List Bool} {vs : List V}, HasL K H (ns.map Dt.bl) vs → vs = ns.map V.bl
  | [], _, h => h
  | n :: ns, _, ⟨w, r, h1, h2, h3⟩ => by
    have h2 : w = .bl n := h2
    rw [h1, h2, HasL.bls h3]
    rfl
theorem HasL.strs : ∀ {ns : List Str} {vs : List V}, HasL K H (ns.map Dt.str) vs → vs = ns.map V.str
  | [], _, h => h
  | n :: ns, _, ⟨w, r, h1, h2, h3⟩ => by
    have h2 : w = .str n := h2
    rw [h1, h2, HasL.strs h3]
    rfl
theorem HasL.of_ints : ∀ {ns : List Int}, HasL K H (ns.map Dt.int) (ns.map V.int)
  | [] => rfl
  | n :: ns => ⟨.int n, _, rfl, rfl, HasL.of_ints⟩
theorem HasL.of_strs : ∀ {ns : List Str}, HasL K H (ns.map Dt.str) (ns.map V.str)
  | [] => rfl
  | n :: ns => ⟨.str n, _, rfl, rfl, HasL.of_strs⟩
end
/-! ### the heap without some addresses -/
def cut (H : Hp) (X : List Addr) : Hp := fun b => if b ∈ X then none else H b
theorem cut_in {H : Hp} {X : List Addr} {b : Addr} (h : b ∈ X) : cut H X b = none := if_pos h
theorem cut_out {H : Hp} {X : List Addr} {b : Addr} (h : b ∉ X) : cut H X b = H b := if_neg h
theorem cut_some {H : Hp} {X : List Addr} {b : Addr} {o : HO} : cut H X b = some o ↔ b ∉ X ∧ H b = some o := by
  by_cases h : b ∈ X
  · rw [cut_in h]
    exact ⟨fun q => (by cases q), fun q => absurd h q.1⟩
  · rw [cut_out h]
    exact ⟨fun q => ⟨h, q⟩, fun q => q.2⟩
theorem cut_le (H : Hp) (X : List Addr) : Same (cut H X) H := fun _ _ h => (cut_some.mp h).2
theorem cut_mono {H H' : Hp} (e : Same H H') (X : List Addr) : Same (cut H X) (cut H' X) := fun b o h => by
  obtain ⟨h1, h2⟩ := cut_some.mp h
  exact cut_some.mpr ⟨h1, e _ _ h2⟩
theorem cut_rd {H H' : Hp} (e : RdLe H H') (X : List Addr) : RdLe (cut H X) (cut H' X) := by
  refine ⟨fun b u nb h => ?_, fun b u f h => cut_some.mpr ⟨(cut_some.mp h).1, e.fx b u f (cut_some.mp h).2⟩⟩
  have hb : b ∉ X ∧ Rd H b u := by
    rcases h with h | ⟨o, h⟩
    · exact ⟨(cut_some.mp h).1, .inl (cut_some.mp h).2⟩
    · exact ⟨(cut_some.mp h).1, .inr ⟨o, (cut_some.mp h).2⟩⟩
  rcases e.rd b u nb hb.2 with h | ⟨o, h⟩
  · exact .inl (cut_some.mpr ⟨hb.1, h⟩)
  · exact .inr ⟨o, cut_some.mpr ⟨hb.1, h⟩⟩
theorem cut_more {H : Hp} {X Y : List Addr} (h : ∀ a, a ∈ X → a ∈ Y) : Same (cut H Y) (cut H X) := fun b o q => by
  obtain ⟨h1, h2⟩ := cut_some.mp q
  exact cut_some.mpr ⟨fun z => h1 (h _ z), h2⟩
theorem cut_app {H H' : Hp} {O Y : List Addr} (e : Same (cut H O) (cut H' O)) : Same (cut H (O ++ Y)) (cut H' (O ++ Y)) := fun b o q => by
  obtain ⟨h1, h2⟩ := cut_some.mp q
  have h3 : b ∉ O := fun z => h1 (List.mem_append_left _ z)
  exact cut_some.mpr ⟨h1, (cut_some.mp (e b o (cut_some.mpr ⟨h3, h2⟩))).2⟩
theorem cut_nil (H : Hp) : cut H [] = H := by
  funext b
  exact cut_out (by simp)
/-- a new address is not among known ones -/
theorem new_out {H : Hp} {X : List Addr} (hd : ∀ a ∈ X, H a ≠ none) {p : Addr} (h : H p = none) : p ∉ X := fun z => hd p z h
theorem cut_new {H : Hp} {X : List Addr} (hd : ∀ a ∈ X, H a ≠ none) {p : Addr} {o : HO} (h : H p = none) : cut (upd H p o) X p = some o := cut_some.mpr ⟨new_out hd h, upd_same⟩
theorem cut_upd_in {H : Hp} {X : List Addr} {p : Addr} {o : HO} (h : p ∈ X) : cut (upd H p o) X = cut H X := by
  funext b
  by_cases hb : b ∈ X
  · rw [cut_in hb, cut_in hb]
  · rw [cut_out hb, cut_out hb, upd_ne (fun z => hb (by rw [z]; exact h))]
theorem same_new {H : Hp} {p : Addr} {o : HO} (h : H p = none) : Same H (upd H p o) := fun b u e => by
  rw [upd_ne (ne_of_none e h)]
  exact e
theorem Same.dom {H H' : Hp} (e : Same H H') {a : Addr} (h : H a ≠ none) : H' a ≠ none := by
  cases q : H a with
  | none => exact absurd q h
  | some o =>
    rw [e a o q]
    exact fun z => by cases z
theorem Same.refl' {H : Hp} : Same H H := Same.refl H
/-! ### what stands in a slot -/
inductive Sl where
  /-- anything -/
  | un
  /-- data, shared freely, never changed -/
  | dat (d : Dt)
  /-- an object that nothing else refers to -/
  | own (o : Option Addr) (d : Dt)
section
variable (K : PySem.W.Frag) (O Y : List Addr) (H : Hp)
def OwnAt : Dt → V → Prop
  | .lst ds, v => ∃ a xs, v = .ref a ∧ a ∈ O ∧ a ∉ Y ∧ H a = some (.lst xs) ∧ HasL K (cut H (O ++ Y)) ds xs
  | .dk ks ds, v => ∃ a xs, v = .ref a ∧ a ∈ O ∧ a ∉ Y ∧ H a = some (.dK (ks.zip xs)) ∧ ks.length = xs.length ∧ HasL K (cut H (O ++ Y)) ds xs
  | .dt ks ds, v => ∃ a xs, v = .ref a ∧ a ∈ O ∧ a ∉ Y ∧ H a = some (.dT (ks.zip xs)) ∧ ks.length = xs.length ∧ HasL K (cut H (O ++ Y)) ds xs
  | .on f ds, v => ∃ a xs, v = .ref a ∧ a ∈ O ∧ a ∉ Y ∧ Bare (f a xs) ∧ H a = some (f a xs) ∧ HasL K (cut H (O ++ Y)) ds xs
  | _, _ => False
def SlOk : Sl → Option V → Prop
  | .un, _ => True
  | .dat d, o => ∃ v, o = some v ∧ Has K (cut H (O ++ Y)) d v
  | .own p d, o => ∃ v, o = some v ∧ OwnAt K O Y H d v ∧ ∀ a, p = some a → v = .ref a
/-- the slots σ are as ρ tells; O the own objects' addresses, Y others that are not looked at -/
structure Env (ρ : List Sl) (σ : St) : Prop where
  len : σ.length = ρ.length
  ok : ∀ (i : Nat) (s : Sl), ρ[i]? = some s → ∃ o, σ[i]? = some o ∧ SlOk K O Y H s o
  sep : ∀ (i j : Nat) (p q : Option Addr) (d e : Dt) (v : V), i ≠ j → ρ[i]? = some (.own p d) → ρ[j]? = some (.own q e) → σ[i]? = some (some v) → σ[j]? ≠ some (some v)
  dom : ∀ a ∈ O ++ Y, H a ≠ none
end
section
variable (K : PySem.W.Frag) (O Y : List Addr) (H : Hp)
/-- an own object as it is read -/
def RdAt : Dt → V → Prop
  | .lst ds, v => ∃ a xs, v = .ref a ∧ a ∈ O ∧ a ∉ Y ∧ Rd H a (.lst xs) ∧ HasL K (cut H (O ++ Y)) ds xs
  | .dk ks ds, v => ∃ a xs, v = .ref a ∧ a ∈ O ∧ a ∉ Y ∧ Rd H a (.dK (ks.zip xs)) ∧ ks.length = xs.length ∧ HasL K (cut H (O ++ Y)) ds xs
  | .dt ks ds, v => ∃ a xs, v = .ref a ∧ a ∈ O ∧ a ∉ Y ∧ Rd H a (.dT (ks.zip xs)) ∧ ks.length = xs.length ∧ HasL K (cut H (O ++ Y)) ds xs
  | .on f ds, v => ∃ a xs, v = .ref a ∧ a ∈ O ∧ a ∉ Y ∧ Bare (f a xs) ∧ Rd H a (f a xs) ∧ HasL K (cut H (O ++ Y)) ds xs
  | _, _ => False
end
section
variable {K : PySem.W.Frag} {O O' Y : List Addr} {H H' : Hp} {ρ ρ' : List Sl} {σ : St} {d e : Dt} {v : V}
theorem OwnAt.rd (h : OwnAt K O Y H d v) : RdAt K O Y H d v := by
  cases d with
  | lst ds => obtain ⟨a, xs, h1, h2, hy, h3, h4⟩ := h; exact ⟨a, xs, h1, h2, hy, .inl h3, h4⟩
  | dk ks ds => obtain ⟨a, xs, h1, h2, hy, h3, hl, h4⟩ := h; exact ⟨a, xs, h1, h2, hy, .inl h3, hl, h4⟩
  | dt ks ds => obtain ⟨a, xs, h1, h2, hy, h3, hl, h4⟩ := h; exact ⟨a, xs, h1, h2, hy, .inl h3, hl, h4⟩
  | on f ds => obtain ⟨a, xs, h1, h2, hy, hb, h3, h4⟩ := h; exact ⟨a, xs, h1, h2, hy, hb, .inl h3, h4⟩
  | _ => exact False.elim h
theorem RdAt.mono (h : RdAt K O Y H d v) (e : RdLe H H') : RdAt K O Y H' d v := by
  cases d with
  | lst ds => obtain ⟨a, xs, h1, h2, hy, h3, h4⟩ := h; exact ⟨a, xs, h1, h2, hy, e.rd _ _ trivial h3, h4.monoR (cut_rd e _)⟩
  | dk ks ds => obtain ⟨a, xs, h1, h2, hy, h3, hl, h4⟩ := h; exact ⟨a, xs, h1, h2, hy, e.rd _ _ trivial h3, hl, h4.monoR (cut_rd e _)⟩
  | dt ks ds => obtain ⟨a, xs, h1, h2, hy, h3, hl, h4⟩ := h; exact ⟨a, xs, h1, h2, hy, e.rd _ _ trivial h3, hl, h4.monoR (cut_rd e _)⟩
  | on f ds => obtain ⟨a, xs, h1, h2, hy, hb, h3, h4⟩ := h; exact ⟨a, xs, h1, h2, hy, hb, e.rd _ _ hb h3, h4.monoR (cut_rd e _)⟩
  | _ => exact False.elim h
theorem OwnAt.ref (h : OwnAt K O Y H d v) : ∃ a, v = .ref a ∧ a ∈ O := by
  cases d with
  | lst ds => obtain ⟨a, xs, h1, h2, _⟩ := h; exact ⟨a, h1, h2⟩
  | dk ks ds => obtain ⟨a, xs, h1, h2, _⟩ := h; exact ⟨a, h1, h2⟩
  | dt ks ds => obtain ⟨a, xs, h1, h2, _⟩ := h; exact ⟨a, h1, h2⟩
  | on f ds => obtain ⟨a, xs, h1, h2, _⟩ := h; exact ⟨a, h1, h2⟩
  | _ => exact False.elim h
/-- an own object is as it was where its address and the data stand -/
theorem OwnAt.keep (h : OwnAt K O Y H d v) (ha : ∀ a o, v = .ref a → H a = some o → H' a = some o) (he : Same (cut H (O ++ Y)) (cut H' (O' ++ Y))) (ho : ∀ a, v = .ref a → a ∈ O → a ∈ O') : OwnAt K O' Y H' d v := by
  cases d with
  | lst ds => obtain ⟨a, xs, h1, h2, hy, h3, h4⟩ := h; exact ⟨a, xs, h1, ho a h1 h2, hy, ha a _ h1 h3, h4.mono he⟩
  | dk ks ds => obtain ⟨a, xs, h1, h2, hy, h3, hl, h4⟩ := h; exact ⟨a, xs, h1, ho a h1 h2, hy, ha a _ h1 h3, hl, h4.mono he⟩
  | dt ks ds => obtain ⟨a, xs, h1, h2, hy, h3, hl, h4⟩ := h; exact ⟨a, xs, h1, ho a h1 h2, hy, ha a _ h1 h3, hl, h4.mono he⟩
  | on f ds => obtain ⟨a, xs, h1, h2, hy, hb, h3, h4⟩ := h; exact ⟨a, xs, h1, ho a h1 h2, hy, hb, ha a _ h1 h3, h4.mono he⟩
  | _ => exact False.elim h
theorem OwnAt.mono (h : OwnAt K O Y H d v) (e : Same H H') : OwnAt K O Y H' d v := h.keep (fun a o _ q => e _ _ q) (cut_mono e _) fun _ _ q => q
theorem SlOk.mono {s : Sl} {o : Option V} (h : SlOk K O Y H s o) (e : Same H H') : SlOk K O Y H' s o := by
  cases s with
  | un => trivial
  | dat d => obtain ⟨v, h1, h2⟩ := h; exact ⟨v, h1, h2.mono (cut_mono e _)⟩
  | own p d => obtain ⟨v, h1, h2, h3⟩ := h; exact ⟨v, h1, h2.mono e, h3⟩
theorem Env.mono (I : Env K O Y H ρ σ) (e : Same H H') : Env K O Y H' ρ σ :=
  ⟨I.len, fun i s h => by obtain ⟨o, h1, h2⟩ := I.ok i s h; exact ⟨o, h1, h2.mono e⟩, I.sep, fun a h => Same.dom e (I.dom a h)⟩
theorem Env.domO (I : Env K O Y H ρ σ) : ∀ a ∈ O, H a ≠ none := fun a h => I.dom a (List.mem_append_left _ h)
theorem Env.dat {i : Nat} (I : Env K O Y H ρ σ) (h : ρ[i]? = some (.dat d)) : ∃ v, σ[i]? = some (some v) ∧ Has K (cut H (O ++ Y)) d v := by
  obtain ⟨o, h1, v, h2, h3⟩ := I.ok i _ h
  exact ⟨v, by rw [h1, h2], h3⟩
theorem Env.own {i : Nat} {p : Option Addr} (I : Env K O Y H ρ σ) (h : ρ[i]? = some (.own p d)) : ∃ v, σ[i]? = some (some v) ∧ OwnAt K O Y H d v ∧ ∀ a, p = some a → v = .ref a := by
  obtain ⟨o, h1, v, h2, h3⟩ := I.ok i _ h
  exact ⟨v, by rw [h1, h2], h3⟩
/-- a slot is stored: data, or unknown -/
theorem Env.put {i : Nat} {s : Sl} (I : Env K O Y H ρ σ) (hs : SlOk K O Y H s (some v)) (hn : ∀ p d, s ≠ .own p d) : Env K O Y H (ρ.set i s) (σ.set i (some v)) := by
  refine ⟨by rw [List.length_set, List.length_set]; exact I.len, fun j t ht => ?_, fun j k p q d e w hjk hj hk h1 h2 => ?_, I.dom⟩
  · by_cases hij : i = j
    · subst hij
      have hl : i < ρ.length := by
        have := (List.getElem?_eq_some_iff.mp ht).1
        rw [List.length_set] at this
        exact this
      rw [List.getElem?_set_self hl] at ht
      cases ht
      exact ⟨some v, List.getElem?_set_self (by rw [I.len]; exact hl), hs⟩
    · rw [List.getElem?_set_ne hij] at ht
      rw [List.getElem?_set_ne hij]
      exact I.ok j t ht
  · have aux : ∀ (m : Nat) (r : Option Addr) (c : Dt), (ρ.set i s)[m]? = some (.own r c) → i ≠ m ∧ ρ[m]? = some (.own r c) := fun m r c hm => by
      by_cases him : i = m
      · subst him
        have hl : i < ρ.length := by
          have := (List.getElem?_eq_some_iff.mp hm).1
          rw [List.length_set] at this
          exact this
        rw [List.getElem?_set_self hl] at hm
        exact absurd (Option.some.inj hm) (hn r c)
      · rw [List.getElem?_set_ne him] at hm
        exact ⟨him, hm⟩
    obtain ⟨a1, a2⟩ := aux j p d hj
    obtain ⟨b1, b2⟩ := aux k q e hk
    rw [List.getElem?_set_ne a1] at h1
    rw [List.getElem?_set_ne b1] at h2
    exact I.sep j k p q d e w hjk a2 b2 h1 h2
/-- weaker: slots forgotten -/
def Le (ρ ρ' : List Sl) : Prop := ρ.length = ρ'.length ∧ ∀ (i : Nat) (s : Sl), ρ'[i]? = some s → s = .un ∨ ρ[i]? = some s
theorem Le.refl (ρ : List Sl) : Le ρ ρ := ⟨rfl, fun _ _ h => .inr h⟩
theorem Env.weak (I : Env K O Y H ρ σ) (h : Le ρ ρ') : Env K O Y H ρ' σ := by
  refine ⟨I.len.trans h.1, fun i s hs => ?_, fun i j p q d e v hij hi hj h1 h2 => ?_, I.dom⟩
  · rcases h.2 i s hs with z | z
    · subst z
      have hl : i < σ.length := by
        rw [I.len, h.1]
        exact (List.getElem?_eq_some_iff.mp hs).1
      exact ⟨σ[i], List.getElem?_eq_getElem hl, trivial⟩
    · exact I.ok i s z
  · rcases h.2 i _ hi with z | z
    · cases z
    rcases h.2 j _ hj with y | y
    · cases y
    exact I.sep i j p q d e v hij z y h1 h2
theorem Le.cons {s t : Sl} {ρ ρ' : List Sl} (h : t = .un ∨ s = t) (r : Le ρ ρ') : Le (s :: ρ) (t :: ρ') := by
  refine ⟨by rw [List.length_cons, List.length_cons, r.1], fun i u hu => ?_⟩
  cases i with
  | zero =>
    have e : t = u := Option.some.inj hu
    subst e
    rcases h with h | h
    · exact .inl h
    · exact .inr (by rw [h]; rfl)
  | succ i => exact r.2 i u hu
theorem Le.nil : Le [] [] := Le.refl []
end
end DL
namespace DL
open PySem PySem.Spec L2
/-! ### what evaluates to what -/
section
variable (K : PySem.W.Frag)
def Ev (te : TE) (ρ : List Sl) (d : Dt) : Prop := ∀ O Y H σ, Env K O Y H ρ σ → ∀ Q : VK, (∀ v H', Same H H' → Has K (cut H' (O ++ Y)) d v → Q v H') → te σ H Q
/-- what may be read: data, or an own object -/
def HasR (O Y : List Addr) (H : Hp) (d : Dt) (v : V) : Prop := Has K (cut H (O ++ Y)) d v ∨ RdAt K O Y H d v
def EvR (te : TE) (ρ : List Sl) (d : Dt) : Prop := ∀ O Y H σ, Env K O Y H ρ σ → ∀ Q : VK, (∀ v H', Same H H' → HasR K O Y H' d v → Q v H') → te σ H Q
/-- a new object, known to nobody else -/
def EvN (te : TE) (ρ : List Sl) (d : Dt) : Prop := ∀ O Y H σ, Env K O Y H ρ σ → ∀ Q : VK, (∀ a H', Same H H' → H a = none → OwnAt K (a :: O) Y H' d (.ref a) → Q (.ref a) H') → te σ H Q
def EvT (tt : TT) (ρ : List Sl) (b : Bool) : Prop := ∀ O Y H σ, Env K O Y H ρ σ → ∀ Q : Bool → Hp → Prop, (∀ H', Same H H' → Q b H') → tt σ H Q
def EvA (ta : TA) (ρ : List Sl) (ds : List Dt) : Prop := ∀ O Y H σ, Env K O Y H ρ σ → ∀ Q : List V → Hp → Prop, (∀ vs H', Same H H' → HasL K (cut H' (O ++ Y)) ds vs → Q vs H') → ta σ H Q
/-- some slots may change -/
def EvM (te : TE) (ρ : List Sl) (d : Dt) (ρ' : List Sl) : Prop := ∀ O Y H σ, Env K O Y H ρ σ → ∀ Q : VK, (∀ v H', Env K O Y H' ρ' σ → Same (cut H O) (cut H' O) → Has K (cut H' (O ++ Y)) d v → Q v H') → te σ H Q
def EvAM (ta : TA) (ρ : List Sl) (ds : List Dt) (ρ' : List Sl) : Prop := ∀ O Y H σ, Env K O Y H ρ σ → ∀ Q : List V → Hp → Prop, (∀ vs H', Env K O Y H' ρ' σ → Same (cut H O) (cut H' O) → HasL K (cut H' (O ++ Y)) ds vs → Q vs H') → ta σ H Q
def EvTM (tt : TT) (ρ : List Sl) (b : Bool) (ρ' : List Sl) : Prop := ∀ O Y H σ, Env K O Y H ρ σ → ∀ Q : Bool → Hp → Prop, (∀ H', Env K O Y H' ρ' σ → Same (cut H O) (cut H' O) → Q b H') → tt σ H Q
/-- an operation on two values, on one, a call on values, a method -/
def RV (r : R2) (d e f : Dt) : Prop := ∀ O Y H x y, (∀ a ∈ O ++ Y, H a ≠ none) → HasR K O Y H d x → HasR K O Y H e y → ∀ Q : VK, (∀ v H', Same H H' → Has K (cut H' (O ++ Y)) f v → Q v H') → r x y H Q
def RU (r : V → Hp → VK → Prop) (d f : Dt) : Prop := ∀ O Y H x, (∀ a ∈ O ++ Y, H a ≠ none) → HasR K O Y H d x → ∀ Q : VK, (∀ v H', Same H H' → Has K (cut H' (O ++ Y)) f v → Q v H') → r x H Q
def RC (r : List V → Hp → VK → Prop) (ds : List Dt) (f : Dt) : Prop := ∀ O Y H xs, (∀ a ∈ O ++ Y, H a ≠ none) → HasL K (cut H (O ++ Y)) ds xs → ∀ Q : VK, (∀ v H', Same H H' → Has K (cut H' (O ++ Y)) f v → Q v H') → r xs H Q
/-- of one argument that is read -/
def RC1 (r : List V → Hp → VK → Prop) (d : Dt) (f : Dt) : Prop := ∀ O Y H x, (∀ a ∈ O ++ Y, H a ≠ none) → HasR K O Y H d x → ∀ Q : VK, (∀ v H', Same H H' → Has K (cut H' (O ++ Y)) f v → Q v H') → r [x] H Q
end
section
variable {K : PySem.W.Frag} {ρ ρ1 ρ2 : List Sl} {d e f : Dt} {te ta tb : TE} {t u : TT} {r : R2}
theorem HasR.mono {O Y : List Addr} {H H' : Hp} {d : Dt} {v : V} (h : HasR K O Y H d v) (e : Same H H') : HasR K O Y H' d v := by
  rcases h with h | h
  · exact .inl (h.mono (cut_mono e _))
  · exact .inr (h.mono (Same.rd e))
theorem dom_mono {O Y : List Addr} {H H' : Hp} (h : ∀ a ∈ O ++ Y, H a ≠ none) (e : Same H H') : ∀ a ∈ O ++ Y, H' a ≠ none := fun a ha => Same.dom e (h a ha)
theorem Ev.rd (h : Ev K te ρ d) : EvR K te ρ d := fun O Y H σ I Q q => h O Y H σ I Q fun v H' s hv => q v H' s (.inl hv)
theorem EvN.ev (h : EvN K te ρ d) : Ev K te ρ d := fun O Y H σ I Q q => h O Y H σ I Q fun a H' s hn hv => by
  have hX : a ∉ O ++ Y := new_out I.dom hn
  have more : Same (cut H' (a :: O ++ Y)) (cut H' (O ++ Y)) := cut_more fun b hb => List.mem_cons_of_mem _ hb
  refine q _ H' s ?_
  cases d with
  | lst ds =>
    obtain ⟨b, xs, e1, _, _, e3, e4⟩ := hv
    cases e1
    exact ⟨a, xs, rfl, .inl (cut_some.mpr ⟨hX, e3⟩), e4.mono more⟩
  | dk ks ds =>
    obtain ⟨b, xs, e1, _, _, e3, hl, e4⟩ := hv
    cases e1
    exact ⟨a, xs, rfl, .inl (cut_some.mpr ⟨hX, e3⟩), hl, e4.mono more⟩
  | dt ks ds =>
    obtain ⟨b, xs, e1, _, _, e3, hl, e4⟩ := hv
    cases e1
    exact ⟨a, xs, rfl, .inl (cut_some.mpr ⟨hX, e3⟩), hl, e4.mono more⟩
  | on f ds =>
    obtain ⟨b, xs, e1, _, _, hb, e3, e4⟩ := hv
    cases e1
    exact ⟨a, xs, rfl, hb, .inl (cut_some.mpr ⟨hX, e3⟩), e4.mono more⟩
  | _ => exact False.elim hv
theorem Ev.m (h : Ev K te ρ d) : EvM K te ρ d ρ := fun O Y H σ I Q q => h O Y H σ I Q fun v H' s hv => q v H' (I.mono s) (cut_mono s _) hv
theorem EvA.m {ta : TA} {ds : List Dt} (h : EvA K ta ρ ds) : EvAM K ta ρ ds ρ := fun O Y H σ I Q q => h O Y H σ I Q fun v H' s hv => q v H' (I.mono s) (cut_mono s _) hv
theorem EvT.m {b : Bool} (h : EvT K t ρ b) : EvTM K t ρ b ρ := fun O Y H σ I Q q => h O Y H σ I Q fun H' s => q H' (I.mono s) (cut_mono s _)
theorem Ev.is (h : Ev K te ρ d) (e : d = f) : Ev K te ρ f := by
  rw [← e]
  exact h
theorem EvT.is {a b : Bool} (h : EvT K t ρ a) (e : a = b) : EvT K t ρ b := by
  rw [← e]
  exact h
theorem EvN.is (h : EvN K te ρ d) (e : d = f) : EvN K te ρ f := by
  rw [← e]
  exact h
theorem EvR.is (h : EvR K te ρ d) (e : d = f) : EvR K te ρ f := by
  rw [← e]
  exact h
theorem ev_var {i : Nat} (h : ρ[i]? = some (.dat d)) : Ev K (tVar i) ρ d := fun O Y H σ I Q q => by
  obtain ⟨v, h1, h2⟩ := I.dat h
  exact ⟨v, h1, q v H (Same.refl H) h2⟩
theorem er_var {i : Nat} {p : Option Addr} (h : ρ[i]? = some (.own p d)) : EvR K (tVar i) ρ d := fun O Y H σ I Q q => by
  obtain ⟨v, h1, h2, _⟩ := I.own h
  exact ⟨v, h1, q v H (Same.refl H) (.inr h2.rd)⟩
theorem ev_non : Ev K (tC .non) ρ .non := fun O Y H σ I Q q => q _ H (Same.refl H) rfl
theorem ev_bl {b : Bool} : Ev K (tC (.bl b)) ρ (.bl b) := fun O Y H σ I Q q => q _ H (Same.refl H) rfl
theorem ev_int {i : Int} : Ev K (tC (.int i)) ρ (.int i) := fun O Y H σ I Q q => q _ H (Same.refl H) rfl
theorem ev_str {s : Str} : Ev K (tC (.str s)) ρ (.str s) := fun O Y H σ I Q q => q _ H (Same.refl H) rfl
theorem ev_opR (ha : EvR K ta ρ d) (hb : EvR K tb ρ e) (hr : RV K r d e f) : Ev K (tOp r ta tb) ρ f := fun O Y H σ I Q q =>
  ha O Y H σ I _ fun x H1 s1 hx => hb O Y H1 σ (I.mono s1) _ fun y H2 s2 hy => hr O Y H2 x y (dom_mono I.dom (s1.trans s2)) (hx.mono s2) hy Q fun v H3 s3 hv => q v H3 ((s1.trans s2).trans s3) hv
theorem ev_op (ha : Ev K ta ρ d) (hb : Ev K tb ρ e) (hr : RV K r d e f) : Ev K (tOp r ta tb) ρ f := ev_opR ha.rd hb.rd hr
theorem ev_unR {r : V → Hp → VK → Prop} (ha : EvR K ta ρ d) (hr : RU K r d f) : Ev K (tUn r ta) ρ f := fun O Y H σ I Q q =>
  ha O Y H σ I _ fun x H1 s1 hx => hr O Y H1 x (dom_mono I.dom s1) hx Q fun v H2 s2 hv => q v H2 (s1.trans s2) hv
theorem ev_un {r : V → Hp → VK → Prop} (ha : Ev K ta ρ d) (hr : RU K r d f) : Ev K (tUn r ta) ρ f := ev_unR ha.rd hr
/-! ### the operators' values -/
theorem HasR.int {O Y : List Addr} {H : Hp} {i : Int} {v : V} (h : HasR K O Y H (.int i) v) : v = .int i := by
  rcases h with h | h
  · exact h
  · exact False.elim h
theorem HasR.str {O Y : List Addr} {H : Hp} {i : Str} {v : V} (h : HasR K O Y H (.str i) v) : v = .str i := by
  rcases h with h | h
  · exact h
  · exact False.elim h
theorem HasR.bl {O Y : List Addr} {H : Hp} {i : Bool} {v : V} (h : HasR K O Y H (.bl i) v) : v = .bl i := by
  rcases h with h | h
  · exact h
  · exact False.elim h
theorem HasR.non {O Y : List Addr} {H : Hp} {v : V} (h : HasR K O Y H .non v) : v = .non := by
  rcases h with h | h
  · exact h
  · exact False.elim h
theorem HasR.lst {O Y : List Addr} {H : Hp} {ds : List Dt} {v : V} (h : HasR K O Y H (.lst ds) v) : ∃ a xs, v = .ref a ∧ Rd H a (.lst xs) ∧ HasL K (cut H (O ++ Y)) ds xs := by
  rcases h with ⟨a, xs, h1, h2, h3⟩ | ⟨a, xs, h1, _, _, h3, h4⟩
  · exact ⟨a, xs, h1, (Same.rd (cut_le _ _)).rd _ _ trivial h2, h3⟩
  · exact ⟨a, xs, h1, h3, h4⟩
theorem HasR.tup {O Y : List Addr} {H : Hp} {ds : List Dt} {v : V} (h : HasR K O Y H (.tup ds) v) : ∃ a xs, v = .ref a ∧ cut H (O ++ Y) a = some (.tup xs) ∧ HasL K (cut H (O ++ Y)) ds xs := by
  rcases h with h | h
  · exact h
  · exact False.elim h
theorem HasR.dk {O Y : List Addr} {H : Hp} {ks : List Key} {ds : List Dt} {v : V} (h : HasR K O Y H (.dk ks ds) v) : ∃ a xs, v = .ref a ∧ Rd H a (.dK (ks.zip xs)) ∧ ks.length = xs.length ∧ HasL K (cut H (O ++ Y)) ds xs := by
  rcases h with ⟨a, xs, h1, h2, h3⟩ | ⟨a, xs, h1, _, _, h3, h4⟩
  · exact ⟨a, xs, h1, (Same.rd (cut_le _ _)).rd _ _ trivial h2, h3⟩
  · exact ⟨a, xs, h1, h3, h4⟩
theorem HasR.dt {O Y : List Addr} {H : Hp} {ks : List (List Key)} {ds : List Dt} {v : V} (h : HasR K O Y H (.dt ks ds) v) : ∃ a xs, v = .ref a ∧ Rd H a (.dT (ks.zip xs)) ∧ ks.length = xs.length ∧ HasL K (cut H (O ++ Y)) ds xs := by
  rcases h with ⟨a, xs, h1, h2, h3⟩ | ⟨a, xs, h1, _, _, h3, h4⟩
  · exact ⟨a, xs, h1, (Same.rd (cut_le _ _)).rd _ _ trivial h2, h3⟩
  · exact ⟨a, xs, h1, h3, h4⟩
theorem rv_I0 {g : Int → Int → Int} {i j : Int} : RV K (rI0 fun i j => .int (g i j)) (.int i) (.int j) (.int (g i j)) := fun O Y H x y _ hx hy Q q =>
  ⟨i, j, hx.int, hy.int, q _ H (Same.refl H) rfl⟩
theorem rv_B0 {g : Int → Int → Bool} {i j : Int} : RV K (rI0 fun i j => .bl (g i j)) (.int i) (.int j) (.bl (g i j)) := fun O Y H x y _ hx hy Q q =>
  ⟨i, j, hx.int, hy.int, q _ H (Same.refl H) rfl⟩
theorem rv_I {C : Int → Int → Prop} {g : Int → Int → Int} {i j : Int} (hc : C i j) : RV K (rI C fun i j => .int (g i j)) (.int i) (.int j) (.int (g i j)) := fun O Y H x y _ hx hy Q q =>
  ⟨i, j, hx.int, hy.int, hc, q _ H (Same.refl H) rfl⟩
theorem ru_I {g : Int → Int} {i : Int} : RU K (rU fun i => .int (g i)) (.int i) (.int (g i)) := fun O Y H x _ hx Q q => ⟨i, hx.int, q _ H (Same.refl H) rfl⟩
theorem rv_eqI {i j : Int} : RV K rEq (.int i) (.int j) (.bl (decide (i = j))) := fun O Y H x y _ hx hy Q q => by
  have hx := hx.int
  have hy := hy.int
  subst hx
  subst hy
  refine ⟨rfl, q _ H (Same.refl H) ?_⟩
  exact congrArg V.bl (decide_eq_decide.mpr ⟨fun z => V.int.inj z, fun z => by rw [z]⟩)
theorem rv_neI {i j : Int} : RV K rNe (.int i) (.int j) (.bl (!decide (i = j))) := fun O Y H x y _ hx hy Q q => by
  have hx := hx.int
  have hy := hy.int
  subst hx
  subst hy
  refine ⟨rfl, q _ H (Same.refl H) ?_⟩
  exact congrArg (fun b => V.bl (!b)) (decide_eq_decide.mpr ⟨fun z => V.int.inj z, fun z => by rw [z]⟩)
theorem rv_eqS {i j : Str} : RV K rEq (.str i) (.str j) (.bl (decide (i = j))) := fun O Y H x y _ hx hy Q q => by
  have hx := hx.str
  have hy := hy.str
  subst hx
  subst hy
  refine ⟨rfl, q _ H (Same.refl H) ?_⟩
  exact congrArg V.bl (decide_eq_decide.mpr ⟨fun z => V.str.inj z, fun z => by rw [z]⟩)
theorem rv_neS {i j : Str} : RV K rNe (.str i) (.str j) (.bl (!decide (i = j))) := fun O Y H x y _ hx hy Q q => by
  have hx := hx.str
  have hy := hy.str
  subst hx
  subst hy
  refine ⟨rfl, q _ H (Same.refl H) ?_⟩
  exact congrArg (fun b => V.bl (!b)) (decide_eq_decide.mpr ⟨fun z => V.str.inj z, fun z => by rw [z]⟩)
theorem rv_eqB {i j : Bool} : RV K rEq (.bl i) (.bl j) (.bl (decide (i = j))) := fun O Y H x y _ hx hy Q q => by
  have hx := hx.bl
  have hy := hy.bl
  subst hx
  subst hy
  refine ⟨rfl, q _ H (Same.refl H) ?_⟩
  exact congrArg V.bl (decide_eq_decide.mpr ⟨fun z => V.bl.inj z, fun z => by rw [z]⟩)
theorem rv_neB {i j : Bool} : RV K rNe (.bl i) (.bl j) (.bl (!decide (i = j))) := fun O Y H x y _ hx hy Q q => by
  have hx := hx.bl
  have hy := hy.bl
  subst hx
  subst hy
  refine ⟨rfl, q _ H (Same.refl H) ?_⟩
  exact congrArg (fun b => V.bl (!b)) (decide_eq_decide.mpr ⟨fun z => V.bl.inj z, fun z => by rw [z]⟩)
/-! is None -/
def isNon : Dt → Bool
  | .non => true
  | .val v => decide (v = .non)
  | _ => false
theorem HasR.isNon {O Y : List Addr} {H : Hp} : ∀ {d : Dt} {v : V}, HasR K O Y H d v → decide (v = .non) = isNon d
  | .non, _, h => by rw [h.non]; rfl
  | .bl _, _, h => by rw [h.bl]; rfl
  | .int _, _, h => by rw [h.int]; rfl
  | .str _, _, h => by rw [h.str]; rfl
  | .tup _, _, h => by obtain ⟨a, xs, e, _⟩ := h.tup; rw [e]; rfl
  | .lst _, _, h => by obtain ⟨a, xs, e, _⟩ := h.lst; rw [e]; rfl
  | .dk _ _, _, h => by obtain ⟨a, xs, e, _⟩ := h.dk; rw [e]; rfl
  | .dt _ _, _, h => by obtain ⟨a, xs, e, _⟩ := h.dt; rw [e]; rfl
  | .kt _, _, h => by rcases h with ⟨a, xs, e, _⟩ | h; rw [e]; rfl; exact False.elim h
  | .kl _, _, h => by rcases h with ⟨a, xs, e, _⟩ | h; rw [e]; rfl; exact False.elim h
  | .val u, v, h => by rcases h with h | h; rw [show v = u from h]; rfl; exact False.elim h
  | .ins _ _ _, _, h => by rcases h with ⟨a, dx, xs, e, _⟩ | h; rw [e]; rfl; exact False.elim h
  | .on _ _, _, h => by rcases h with ⟨a, xs, e, _⟩ | ⟨a, xs, e, _⟩ <;> (rw [e]; rfl)
theorem rv_isN {d : Dt} : RV K (fun x y H Q => y = .non ∧ Q (.bl (decide (x = .non))) H) d .non (.bl (isNon d)) := fun O Y H x y _ hx hy Q q =>
  ⟨hy.non, q _ H (Same.refl H) (congrArg V.bl hx.isNon)⟩
theorem rv_notN {d : Dt} : RV K (fun x y H Q => y = .non ∧ Q (.bl (!decide (x = .non))) H) d .non (.bl (!isNon d)) := fun O Y H x y _ hx hy Q q =>
  ⟨hy.non, q _ H (Same.refl H) (congrArg (fun b => V.bl (!b)) hx.isNon)⟩
/-! ### tests -/
theorem et_test {b : Bool} (h : Ev K te ρ (.bl b)) : EvT K (tTest te) ρ b := fun O Y H σ I Q q => h O Y H σ I _ fun v H1 s hv => ⟨b, hv, q H1 s⟩
theorem et_B {b : Bool} (h : Ev K te ρ (.bl b)) : EvT K (tB te) ρ b := fun O Y H σ I Q q => h O Y H σ I _ fun v H1 s hv => ⟨b, hv, q H1 s⟩
theorem et_and {a b : Bool} (h1 : EvT K t ρ a) (h2 : a = true → EvT K u ρ b) : EvT K (tAnd t u) ρ (a && b) := fun O Y H σ I Q q => h1 O Y H σ I _ fun H2 s => by
  cases a with
  | true =>
    show u σ H2 Q
    exact h2 rfl O Y H2 σ (I.mono s) Q fun H3 s3 => q H3 (s.trans s3)
  | false =>
    show Q false H2
    exact q H2 s
theorem et_or {a b : Bool} (h1 : EvT K t ρ a) (h2 : a = false → EvT K u ρ b) : EvT K (tOr t u) ρ (a || b) := fun O Y H σ I Q q => h1 O Y H σ I _ fun H2 s => by
  cases a with
  | true =>
    show Q true H2
    exact q H2 s
  | false =>
    show u σ H2 Q
    exact h2 rfl O Y H2 σ (I.mono s) Q fun H3 s3 => q H3 (s.trans s3)
theorem et_not {a : Bool} (h1 : EvT K t ρ a) : EvT K (tNot t) ρ (!a) := fun O Y H σ I Q q => h1 O Y H σ I _ fun H2 s => q H2 s
theorem ev_andV {a b : Bool} (h1 : Ev K ta ρ (.bl a)) (h2 : a = true → Ev K tb ρ (.bl b)) : Ev K (tAndV ta tb) ρ (.bl (a && b)) := fun O Y H σ I Q q => h1 O Y H σ I _ fun v H2 s hv => ⟨a, hv, by
  cases a with
  | true =>
    show tb σ H2 Q
    exact h2 rfl O Y H2 σ (I.mono s) Q fun v H3 s3 => q v H3 (s.trans s3)
  | false =>
    show Q (.bl false) H2
    exact q _ H2 s rfl⟩
theorem ev_orV {a b : Bool} (h1 : Ev K ta ρ (.bl a)) (h2 : a = false → Ev K tb ρ (.bl b)) : Ev K (tOrV ta tb) ρ (.bl (a || b)) := fun O Y H σ I Q q => h1 O Y H σ I _ fun v H2 s hv => ⟨a, hv, by
  cases a with
  | true =>
    show Q (.bl true) H2
    exact q _ H2 s rfl
  | false =>
    show tb σ H2 Q
    exact h2 rfl O Y H2 σ (I.mono s) Q fun v H3 s3 => q v H3 (s.trans s3)⟩
theorem ev_notV {a : Bool} (h1 : Ev K ta ρ (.bl a)) : Ev K (tNotV ta) ρ (.bl (!a)) := fun O Y H σ I Q q => h1 O Y H σ I _ fun v H2 s hv => ⟨a, hv, q _ H2 s rfl⟩
theorem ev_if {b : Bool} (h : EvT K t ρ b) (h1 : b = true → Ev K ta ρ d) (h2 : b = false → Ev K tb ρ d) : Ev K (tIf t ta tb) ρ d := fun O Y H σ I Q q => h O Y H σ I _ fun H2 s => by
  cases b with
  | true =>
    show ta σ H2 Q
    exact h1 rfl O Y H2 σ (I.mono s) Q fun v H3 s3 => q v H3 (s.trans s3)
  | false =>
    show tb σ H2 Q
    exact h2 rfl O Y H2 σ (I.mono s) Q fun v H3 s3 => q v H3 (s.trans s3)
/-! ### arguments, displays -/
theorem ea_nil : EvA K tNil ρ [] := fun O Y H σ I Q q => q [] H (Same.refl H) rfl
theorem ea_cons {tr : TA} {ds : List Dt} (h : Ev K ta ρ d) (hr : EvA K tr ρ ds) : EvA K (tCons ta tr) ρ (d :: ds) := fun O Y H σ I Q q => h O Y H σ I _ fun v H1 s1 hv =>
  hr O Y H1 σ (I.mono s1) _ fun vs H2 s2 hs => q _ H2 (s1.trans s2) ⟨v, vs, rfl, hv.mono (cut_mono s2 _), hs⟩
theorem ev_tup {ta : TA} {ds : List Dt} (h : EvA K ta ρ ds) (hl : ds.length ≤ sizeLine) : Ev K (tTup ta) ρ (.tup ds) := fun O Y H σ I Q q => h O Y H σ I _ fun vs H1 s1 hv => by
  refine ⟨by rw [hv.len]; exact hl, fun p hp => q _ _ (s1.trans (same_new hp)) ?_⟩
  exact ⟨p, vs, rfl, cut_new (dom_mono I.dom s1) hp, hv.mono (cut_mono (same_new hp) _)⟩
theorem en_lst {ta : TA} {ds : List Dt} (h : EvA K ta ρ ds) (hl : ds.length ≤ sizeLine) : EvN K (tLst ta) ρ (.lst ds) := fun O Y H σ I Q q => h O Y H σ I _ fun vs H1 s1 hv => by
  refine ⟨by rw [hv.len]; exact hl, fun p hp => q p _ (s1.trans (same_new hp)) (s1.free hp) ?_⟩
  refine ⟨p, vs, rfl, List.mem_cons_self, fun z => new_out (dom_mono I.dom s1) hp (List.mem_append_right _ z), upd_same, ?_⟩
  have e : Same (cut H1 (O ++ Y)) (cut (upd H1 p (.lst vs)) (p :: O ++ Y)) := fun b o hb => by
    obtain ⟨h1, h2⟩ := cut_some.mp hb
    refine cut_some.mpr ⟨fun z => ?_, same_new hp _ _ h2⟩
    rcases List.mem_cons.mp z with z | z
    · subst z
      rw [hp] at h2
      cases h2
    · exact h1 z
  exact hv.mono e
theorem ev_lst {ta : TA} {ds : List Dt} (h : EvA K ta ρ ds) (hl : ds.length ≤ sizeLine) : Ev K (tLst ta) ρ (.lst ds) := (en_lst h hl).ev
theorem en_dk : EvN K tDNewK ρ (.dk [] []) := fun O Y H σ I Q q => fun p hp => q p _ (same_new hp) hp ⟨p, [], rfl, List.mem_cons_self, fun z => new_out I.dom hp (List.mem_append_right _ z), upd_same, rfl, rfl⟩
theorem en_dt : EvN K tDNewT ρ (.dt [] []) := fun O Y H σ I Q q => fun p hp => q p _ (same_new hp) hp ⟨p, [], rfl, List.mem_cons_self, fun z => new_out I.dom hp (List.mem_append_right _ z), upd_same, rfl, rfl⟩
/-! ### calls of built-ins -/
theorem ev_cb {r : List V → Hp → VK → Prop} {ta : TA} {ds : List Dt} (h : EvA K ta ρ ds) (hr : RC K r ds f) : Ev K (tCB r ta) ρ f := fun O Y H σ I Q q => h O Y H σ I _ fun vs H1 s1 hv =>
  hr O Y H1 vs (dom_mono I.dom s1) hv Q fun v H2 s2 h2 => q v H2 (s1.trans s2) h2
theorem ev_cb1 {r : List V → Hp → VK → Prop} (h : EvR K ta ρ d) (hr : RC1 K r d f) : Ev K (tCB r (tCons ta tNil)) ρ f := fun O Y H σ I Q q => h O Y H σ I _ fun x H1 s1 hx =>
  hr O Y H1 x (dom_mono I.dom s1) hx Q fun v H2 s2 h2 => q v H2 (s1.trans s2) h2
def lenD : Dt → Nat
  | .str s => s.length
  | .tup ds => ds.length
  | .lst ds => ds.length
  | .kl ds => ds.length
  | _ => 0
theorem rc_len {ds : List Dt} : RC1 K (rLen K) (.lst ds) (.int (ds.length : Int)) := fun O Y H x _ hx Q q => by
  obtain ⟨a, xs, rfl, h2, h3⟩ := hx.lst
  exact ⟨_, xs.length, rfl, .inl ⟨xs, .inl h2, rfl⟩, q _ H (Same.refl H) (by rw [h3.len]; rfl)⟩
theorem rc_lenT {ds : List Dt} : RC1 K (rLen K) (.tup ds) (.int (ds.length : Int)) := fun O Y H x _ hx Q q => by
  obtain ⟨a, xs, rfl, h2, h3⟩ := hx.tup
  exact ⟨_, xs.length, rfl, .inr ⟨xs, SqT.of (cut_le _ _ _ _ h2), rfl⟩, q _ H (Same.refl H) (by rw [h3.len]; rfl)⟩
theorem HasR.kl {O Y : List Addr} {H : Hp} {ds : List Dt} {v : V} (h : HasR K O Y H (.kl ds) v) : ∃ a xs, v = .ref a ∧ SqL K H a xs ∧ HasL K (cut H (O ++ Y)) ds xs := by
  rcases h with ⟨a, xs, h1, h2, h3⟩ | h
  · exact ⟨a, xs, h1, h2.elim (fun z => .inl ((Same.rd (cut_le _ _)).rd _ _ trivial z)) .inr, h3⟩
  · exact False.elim h
theorem rc_lenK {ds : List Dt} : RC1 K (rLen K) (.kl ds) (.int (ds.length : Int)) := fun O Y H x _ hx Q q => by
  obtain ⟨a, xs, rfl, h2, h3⟩ := hx.kl
  exact ⟨_, xs.length, rfl, .inl ⟨xs, h2, rfl⟩, q _ H (Same.refl H) (by rw [h3.len]; rfl)⟩
/-! ### subscripts -/
theorem rv_ixK {ds : List Dt} {i : Int} (h : atI ds i = some f) : RV K (rIx K) (.kl ds) (.int i) f := fun O Y H x y _ hx hy Q q => by
  obtain ⟨a, xs, rfl, h2, h3⟩ := hx.kl
  have hy := hy.int
  subst hy
  obtain ⟨j, e1, e2⟩ := Option.bind_eq_some_iff.mp (show (ixN ds.length i).bind (fun j => ds[j]?) = some f from h)
  obtain ⟨v, e3, e4⟩ := h3.get e2
  refine .inl ⟨a, xs, i, v, rfl, rfl, h2, ?_, q v H (Same.refl H) e4⟩
  show (ixN xs.length i).bind (fun j => xs[j]?) = some v
  rw [h3.len, e1]
  exact e3
theorem rv_ixL {ds : List Dt} {i : Int} (h : atI ds i = some f) : RV K (rIx K) (.lst ds) (.int i) f := fun O Y H x y _ hx hy Q q => by
  obtain ⟨a, xs, rfl, h2, h3⟩ := hx.lst
  have hy := hy.int
  subst hy
  obtain ⟨j, e1, e2⟩ := Option.bind_eq_some_iff.mp (show (ixN ds.length i).bind (fun j => ds[j]?) = some f from h)
  obtain ⟨v, e3, e4⟩ := h3.get e2
  refine .inl ⟨a, xs, i, v, rfl, rfl, .inl h2, ?_, q v H (Same.refl H) e4⟩
  show (ixN xs.length i).bind (fun j => xs[j]?) = some v
  rw [h3.len, e1]
  exact e3
theorem rv_ixT {ds : List Dt} {i : Int} (h : atI ds i = some f) : RV K (rIx K) (.tup ds) (.int i) f := fun O Y H x y _ hx hy Q q => by
  obtain ⟨a, xs, rfl, h2, h3⟩ := hx.tup
  have hy := hy.int
  subst hy
  obtain ⟨j, e1, e2⟩ := Option.bind_eq_some_iff.mp (show (ixN ds.length i).bind (fun j => ds[j]?) = some f from h)
  obtain ⟨v, e3, e4⟩ := h3.get e2
  refine .inr (.inl ⟨a, xs, i, v, rfl, rfl, SqT.of (cut_le _ _ _ _ h2), ?_, q v H (Same.refl H) e4⟩)
  show (ixN xs.length i).bind (fun j => xs[j]?) = some v
  rw [h3.len, e1]
  exact e3
/-! ### dicts that are read -/
theorem zip_val {α : Type} {β : Type} [DecidableEq α] : ∀ {ks : List α} {xs : List β} {k : α}, ks.length = xs.length → ((ks.zip xs).find? fun kv => decide (kv.1 = k)).map (·.2) = (ks.findIdx? fun z => decide (z = k)).bind fun j => xs[j]?
  | [], [], _, _ => rfl
  | [], _ :: _, _, h => by simp at h
  | _ :: _, [], _, h => by simp at h
  | a :: ks, x :: xs, k, h => by
    rw [List.zip_cons_cons, List.find?_cons, List.findIdx?_cons]
    by_cases e : a = k
    · subst e
      simp
    · have ih := zip_val (ks := ks) (xs := xs) (k := k) (by simpa using h)
      simp only [e, decide_false]
      rw [ih]
      cases ks.findIdx? (fun z => decide (z = k)) <;> simp
/-- what a dict has at a key -/
def dget {κ : Type} [DecidableEq κ] (ks : List κ) (ds : List Dt) (k : κ) : Option Dt := (ks.findIdx? fun z => decide (z = k)).bind fun j => ds[j]?
theorem valV_has {κ : Type} [DecidableEq κ] {G : Hp} {ks : List κ} {ds : List Dt} {xs : List V} {k : κ} (hl : ks.length = xs.length) (h : HasL K G ds xs) :
    match dget ks ds k with
    | some d => ∃ v, valV (ks.zip xs) k = some v ∧ Has K G d v
    | none => valV (ks.zip xs) k = none := by
  have e : valV (ks.zip xs) k = (ks.findIdx? fun z => decide (z = k)).bind fun j => xs[j]? := zip_val hl
  unfold dget
  cases q : ks.findIdx? (fun z => decide (z = k)) with
  | none =>
    rw [q] at e
    exact e
  | some j =>
    rw [q] at e
    have hj : j < ks.length := by
      have := List.findIdx?_eq_some_iff_getElem.mp q
      exact this.1
    have hd : j < ds.length := by rw [← h.len, ← hl]; exact hj
    have e1 : ds[j]? = some ds[j] := List.getElem?_eq_getElem hd
    obtain ⟨v, e2, e3⟩ := h.get e1
    show match ds[j]? with
      | some d => ∃ v, valV (ks.zip xs) k = some v ∧ Has K G d v
      | none => valV (ks.zip xs) k = none
    rw [e1]
    exact ⟨v, e.trans e2, e3⟩
def kD : Key → Dt
  | .inl i => .int i
  | .inr s => .str s
theorem HasR.key {O Y : List Addr} {H : Hp} {k : Key} {v : V} (h : HasR K O Y H (kD k) v) : v = kV k := by
  cases k with
  | inl i => exact h.int
  | inr s => exact h.str
theorem ev_dget {k : Key} {ks : List Key} {ds : List Dt} (ha : EvR K ta ρ (.dk ks ds)) (hb : Ev K tb ρ (kD k)) (h : dget ks ds k = some f) : Ev K (tDGet ta tb) ρ f := fun O Y H σ I Q q =>
  ha O Y H σ I _ fun x H1 s1 hx => hb O Y H1 σ (I.mono s1) _ fun y H2 s2 hy => by
    obtain ⟨a, xs, rfl, e1, e2, e3⟩ := (hx.mono s2).dk
    have hv := valV_has (k := k) e2 e3
    rw [h] at hv
    obtain ⟨v, e4, e5⟩ := hv
    have ey := HasR.key (k := k) (.inl hy)
    subst ey
    exact ⟨a, v, rfl, .inl ⟨_, k, e1, rfl, e4.symm⟩, q v H2 (s1.trans s2) e5⟩
theorem ev_din {k : Key} {ks : List Key} {ds : List Dt} (hb : Ev K tb ρ (kD k)) (ha : EvR K ta ρ (.dk ks ds)) : Ev K (tDIn tb ta) ρ (.bl (dget ks ds k).isSome) := fun O Y H σ I Q q =>
  hb O Y H σ I _ fun y H1 s1 hy => ha O Y H1 σ (I.mono s1) _ fun x H2 s2 hx => by
    obtain ⟨a, xs, rfl, e1, e2, e3⟩ := hx.dk
    have hv := valV_has (k := k) e2 e3
    have ey := HasR.key (k := k) (.inl hy)
    subst ey
    refine ⟨a, _, rfl, .inl ⟨_, k, e1, rfl, rfl⟩, q _ H2 (s1.trans s2) ?_⟩
    cases q2 : dget ks ds k with
    | none => rw [q2] at hv; rw [hv]; rfl
    | some d => rw [q2] at hv; obtain ⟨v, e4, _⟩ := hv; rw [e4]; rfl
theorem ev_dnotin {k : Key} {ks : List Key} {ds : List Dt} (hb : Ev K tb ρ (kD k)) (ha : EvR K ta ρ (.dk ks ds)) : Ev K (tDNotIn tb ta) ρ (.bl (!(dget ks ds k).isSome)) := fun O Y H σ I Q q =>
  hb O Y H σ I _ fun y H1 s1 hy => ha O Y H1 σ (I.mono s1) _ fun x H2 s2 hx => by
    obtain ⟨a, xs, rfl, e1, e2, e3⟩ := hx.dk
    have hv := valV_has (k := k) e2 e3
    have ey := HasR.key (k := k) (.inl hy)
    subst ey
    refine ⟨a, _, rfl, .inl ⟨_, k, e1, rfl, rfl⟩, q _ H2 (s1.trans s2) ?_⟩
    cases q2 : dget ks ds k with
    | none => rw [q2] at hv; rw [hv]; rfl
    | some d => rw [q2] at hv; obtain ⟨v, e4, _⟩ := hv; rw [e4]; rfl
end
end DL
namespace DL
open PySem PySem.Spec L2
section
variable {K : PySem.W.Frag} {O Y : List Addr} {H H' : Hp} {ρ ρ' : List Sl} {σ : L2.St} {d e : Dt} {v : V}
/-- a fresh object for a slot of its own -/
theorem Env.putNew {a : Addr} {i : Nat} (I : Env K O Y H ρ σ) (s : Same H H') (hn : H a = none) (ho : OwnAt K (a :: O) Y H' d (.ref a)) : Env K (a :: O) Y H' (ρ.set i (.own none d)) (σ.set i (some (.ref a))) := by
  have haX : a ∉ O ++ Y := new_out I.dom hn
  have hne : H' a ≠ none := by
    cases d with
    | lst ds => obtain ⟨b, xs, e1, _, _, e3, _⟩ := ho; cases e1; rw [e3]; exact fun z => by cases z
    | dk ks ds => obtain ⟨b, xs, e1, _, _, e3, _⟩ := ho; cases e1; rw [e3]; exact fun z => by cases z
    | dt ks ds => obtain ⟨b, xs, e1, _, _, e3, _⟩ := ho; cases e1; rw [e3]; exact fun z => by cases z
    | on f ds => obtain ⟨b, xs, e1, _, _, _, e3, _⟩ := ho; cases e1; rw [e3]; exact fun z => by cases z
    | _ => exact False.elim ho
  have sc : Same (cut H (O ++ Y)) (cut H' (a :: O ++ Y)) := fun b o hb => by
    obtain ⟨h1, h2⟩ := cut_some.mp hb
    refine cut_some.mpr ⟨fun z => ?_, s _ _ h2⟩
    rcases List.mem_cons.mp z with z | z
    · subst z
      rw [hn] at h2
      cases h2
    · exact h1 z
  have up : ∀ (t : Sl) (o : Option V), SlOk K O Y H t o → SlOk K (a :: O) Y H' t o := fun t o h => by
    cases t with
    | un => trivial
    | dat d => obtain ⟨v, h1, h2⟩ := h; exact ⟨v, h1, h2.mono sc⟩
    | own p d => obtain ⟨v, h1, h2, h3⟩ := h; exact ⟨v, h1, h2.keep (fun b o _ q => s _ _ q) sc (fun b _ q => List.mem_cons_of_mem _ q), h3⟩
  refine ⟨by rw [List.length_set, List.length_set]; exact I.len, fun j t ht => ?_, fun j k p q d1 e1 w hjk hj hk h1 h2 => ?_, fun b hb => ?_⟩
  · by_cases hij : i = j
    · subst hij
      have hl : i < ρ.length := by
        have := (List.getElem?_eq_some_iff.mp ht).1
        rw [List.length_set] at this
        exact this
      rw [List.getElem?_set_self hl] at ht
      cases ht
      exact ⟨some (.ref a), List.getElem?_set_self (by rw [I.len]; exact hl), _, rfl, ho, fun b z => by cases z⟩
    · rw [List.getElem?_set_ne hij] at ht
      rw [List.getElem?_set_ne hij]
      obtain ⟨o, h1, h2⟩ := I.ok j t ht
      exact ⟨o, h1, up t o h2⟩
  · -- two own slots
    have old : ∀ (m : Nat) (r : Option Addr) (c : Dt), i ≠ m → (ρ.set i (.own none d))[m]? = some (.own r c) → ∀ u, (σ.set i (some (.ref a)))[m]? = some (some u) → u ≠ .ref a := fun m r c him hm u hu hua => by
      rw [List.getElem?_set_ne him] at hm hu
      obtain ⟨v', g1, g2, _⟩ := I.own hm
      rw [g1] at hu
      have e := Option.some.inj (Option.some.inj hu)
      obtain ⟨b, g3, g4⟩ := g2.ref
      have hua' : V.ref b = V.ref a := g3.symm.trans (e.trans hua)
      cases hua'
      exact haX (List.mem_append_left _ g4)
    by_cases hij : i = j
    · subst hij
      have hl : i < ρ.length := by
        have := (List.getElem?_eq_some_iff.mp hj).1
        rw [List.length_set] at this
        exact this
      rw [List.getElem?_set_self (by rw [I.len]; exact hl)] at h1
      have ew := Option.some.inj (Option.some.inj h1)
      subst ew
      exact old k q e1 hjk hk _ h2 rfl
    · by_cases hik : i = k
      · subst hik
        have hl : i < ρ.length := by
          have := (List.getElem?_eq_some_iff.mp hk).1
          rw [List.length_set] at this
          exact this
        rw [List.getElem?_set_self (by rw [I.len]; exact hl)] at h2
        have ew := Option.some.inj (Option.some.inj h2)
        exact old j p d1 hij hj _ h1 ew.symm
      · rw [List.getElem?_set_ne hij] at hj h1
        rw [List.getElem?_set_ne hik] at hk h2
        exact I.sep j k p q d1 e1 w hjk hj hk h1 h2
  · rcases List.mem_cons.mp hb with z | z
    · subst z; exact hne
    · exact Same.dom s (I.dom b z)
/-- an own object changes -/
theorem Env.change {a : Addr} {i : Nat} {p : Option Addr} {o' : HO} (I : Env K O Y H ρ σ) (hi : ρ[i]? = some (.own p d)) (hv : σ[i]? = some (some (.ref a))) (ha : a ∈ O) (ho : OwnAt K O Y (upd H a o') e (.ref a)) :
    Env K O Y (upd H a o') (ρ.set i (.own p e)) σ := by
  have hc : cut (upd H a o') (O ++ Y) = cut H (O ++ Y) := cut_upd_in (List.mem_append_left _ ha)
  have hl : i < ρ.length := (List.getElem?_eq_some_iff.mp hi).1
  refine ⟨by rw [List.length_set]; exact I.len, fun j t ht => ?_, fun j k q r d1 e1 w hjk hj hk h1 h2 => ?_, fun b hb => ?_⟩
  · by_cases hij : i = j
    · subst hij
      rw [List.getElem?_set_self hl] at ht
      cases ht
      obtain ⟨v', g1, _, g3⟩ := I.own hi
      have e1 : V.ref a = v' := Option.some.inj (Option.some.inj (hv.symm.trans g1))
      exact ⟨_, hv, _, rfl, ho, fun b hb => by rw [e1]; exact g3 b hb⟩
    · rw [List.getElem?_set_ne hij] at ht
      obtain ⟨o, h1, h2⟩ := I.ok j t ht
      refine ⟨o, h1, ?_⟩
      cases t with
      | un => trivial
      | dat c => obtain ⟨u, g1, g2⟩ := h2; exact ⟨u, g1, by rw [hc]; exact g2⟩
      | own q c =>
        obtain ⟨u, g1, g2, g3⟩ := h2
        refine ⟨u, g1, g2.keep (fun b ob hb hq => ?_) (by rw [hc]; exact Same.refl _) (fun _ _ z => z), g3⟩
        have hba : b ≠ a := fun z => by
          subst z
          exact I.sep i j p q d c _ hij hi ht hv (by rw [h1, g1, hb])
        rw [upd_ne hba]
        exact hq
  · have old : ∀ (m : Nat) (s : Option Addr) (c : Dt), (ρ.set i (.own p e))[m]? = some (.own s c) → ∃ s' c', ρ[m]? = some (.own s' c') := fun m s c hm => by
      by_cases him : i = m
      · subst him; exact ⟨p, d, hi⟩
      · rw [List.getElem?_set_ne him] at hm; exact ⟨s, c, hm⟩
    obtain ⟨s1, c1, g1⟩ := old j q d1 hj
    obtain ⟨s2, c2, g2⟩ := old k r e1 hk
    exact I.sep j k s1 s2 c1 c2 w hjk g1 g2 h1 h2
  · by_cases hba : b = a
    · subst hba; rw [upd_same]; exact fun z => by cases z
    · rw [upd_ne hba]; exact I.dom b hb
/-- an own object becomes data -/
theorem Env.freeze {i : Nat} {p : Option Addr} (I : Env K O Y H ρ σ) (hi : ρ[i]? = some (.own p d)) : ∃ O', (∀ a, a ∈ O' → a ∈ O) ∧ Env K O' Y H (ρ.set i (.dat d)) σ := by
  obtain ⟨v, hv, ho, _⟩ := I.own hi
  obtain ⟨a, rfl, ha⟩ := ho.ref
  have hl : i < ρ.length := (List.getElem?_eq_some_iff.mp hi).1
  have sub : ∀ b, b ∈ O.filter (fun b => decide (b ≠ a)) → b ∈ O := fun b hb => (List.mem_filter.mp hb).1
  have subY : ∀ b, b ∈ O.filter (fun b => decide (b ≠ a)) ++ Y → b ∈ O ++ Y := fun b hb => by
    rcases List.mem_append.mp hb with z | z
    · exact List.mem_append_left _ (sub b z)
    · exact List.mem_append_right _ z
  have sc : Same (cut H (O ++ Y)) (cut H (O.filter (fun b => decide (b ≠ a)) ++ Y)) := cut_more subY
  have hay : a ∉ Y → a ∉ O.filter (fun b => decide (b ≠ a)) ++ Y := fun h z => by
    rcases List.mem_append.mp z with z | z
    · exact absurd rfl (of_decide_eq_true (List.mem_filter.mp z).2)
    · exact h z
  refine ⟨O.filter fun b => decide (b ≠ a), sub, by rw [List.length_set]; exact I.len, fun j t ht => ?_, fun j k q r d1 e1 w hjk hj hk h1 h2 => ?_, fun b hb => I.dom b (subY b hb)⟩
  · by_cases hij : i = j
    · subst hij
      rw [List.getElem?_set_self hl] at ht
      cases ht
      refine ⟨_, hv, _, rfl, ?_⟩
      cases d with
      | lst ds => obtain ⟨b, xs, e1, e2, ey, e3, e4⟩ := ho; cases e1; exact ⟨a, xs, rfl, .inl (cut_some.mpr ⟨hay ey, e3⟩), e4.mono sc⟩
      | dk ks ds => obtain ⟨b, xs, e1, e2, ey, e3, hz, e4⟩ := ho; cases e1; exact ⟨a, xs, rfl, .inl (cut_some.mpr ⟨hay ey, e3⟩), hz, e4.mono sc⟩
      | dt ks ds => obtain ⟨b, xs, e1, e2, ey, e3, hz, e4⟩ := ho; cases e1; exact ⟨a, xs, rfl, .inl (cut_some.mpr ⟨hay ey, e3⟩), hz, e4.mono sc⟩
      | on f ds => obtain ⟨b, xs, e1, e2, ey, hb, e3, e4⟩ := ho; cases e1; exact ⟨a, xs, rfl, hb, .inl (cut_some.mpr ⟨hay ey, e3⟩), e4.mono sc⟩
      | _ => exact False.elim ho
    · rw [List.getElem?_set_ne hij] at ht
      obtain ⟨o, h1, h2⟩ := I.ok j t ht
      refine ⟨o, h1, ?_⟩
      cases t with
      | un => trivial
      | dat c => obtain ⟨u, g1, g2⟩ := h2; exact ⟨u, g1, g2.mono sc⟩
      | own q c =>
        obtain ⟨u, g1, g2, g3⟩ := h2
        refine ⟨u, g1, g2.keep (fun b ob hb hq => hq) sc (fun b hb z => List.mem_filter.mpr ⟨z, decide_eq_true fun w => ?_⟩), g3⟩
        subst w
        exact I.sep i j p q d c _ hij hi ht hv (by rw [h1, g1, hb])
  · have old : ∀ (m : Nat) (s : Option Addr) (c : Dt), (ρ.set i (.dat d))[m]? = some (.own s c) → ρ[m]? = some (.own s c) := fun m s c hm => by
      by_cases him : i = m
      · subst him
        rw [List.getElem?_set_self hl] at hm
        cases hm
      · rw [List.getElem?_set_ne him] at hm; exact hm
    exact I.sep j k q r d1 e1 w hjk (old j q d1 hj) (old k r e1 hk) h1 h2
end
/-! ### statements -/
section
variable (K : PySem.W.Frag)
def Sta (Y : List Addr) (G : Hp) (ρ : List Sl) (σ : L2.St) (H : Hp) : Prop := ∃ O, Env K O Y H ρ σ ∧ Same G (cut H O)
def StaR (Y : List Addr) (G : Hp) (ρ : List Sl) (σ : L2.St) (H : Hp) (d : Dt) (v : V) : Prop := ∃ O, Env K O Y H ρ σ ∧ Same G (cut H O) ∧ Has K (cut H (O ++ Y)) d v
/-- what is wanted of the ends -/
structure Po where
  nx : List Sl → Prop
  rt : Dt → List Sl → Prop := fun _ _ => False
  bk : List Sl → Prop := fun _ => False
  ct : List Sl → Prop := fun _ => False
structure Ends (Y : List Addr) (G : Hp) (P : Po) (D : L2.Ends) : Prop where
  nx : ∀ ρ σ H, P.nx ρ → Sta K Y G ρ σ H → D.nx σ H
  rt : ∀ d ρ σ v H, P.rt d ρ → StaR K Y G ρ σ H d v → D.rt v H
  bk : ∀ ρ σ H, P.bk ρ → Sta K Y G ρ σ H → D.bk σ H
  ct : ∀ ρ σ H, P.ct ρ → Sta K Y G ρ σ H → D.ct σ H
def Runs (ts : TS) (ρ : List Sl) (P : Po) : Prop := ∀ Y G σ H D, Sta K Y G ρ σ H → Ends K Y G P D → ts D σ H
end
section
variable {K : PySem.W.Frag} {ρ ρ' : List Sl} {P : Po} {te ta tb tx : TE} {c : TT} {t u : TS} {d e : Dt} {i j : Nat}
theorem Sta.ext {Y : List Addr} {G H H' : Hp} {σ : L2.St} {O : List Addr} (I : Env K O Y H ρ σ) (g : Same G (cut H O)) (s : Same H H') : Sta K Y G ρ σ H' := ⟨O, I.mono s, g.trans (cut_mono s _)⟩
theorem r_seq (h : Runs K t ρ { P with nx := fun ρ' => Runs K u ρ' P }) : Runs K (tSeq t u) ρ P := fun Y G σ H D S E =>
  h Y G σ H { D with nx := u D } S ⟨fun ρ' σ' H' hr hs => hr Y G σ' H' D hs E, E.rt, E.bk, E.ct⟩
theorem r_next (h : P.nx ρ) : Runs K tNext ρ P := fun Y G σ H D S E => E.nx ρ σ H h S
theorem r_weak (h : Runs K t ρ' P) (w : Le ρ ρ') : Runs K t ρ P := fun Y G σ H D ⟨O, I, g⟩ E => h Y G σ H D ⟨O, I.weak w, g⟩ E
theorem r_nextW (h : P.nx ρ') (w : Le ρ ρ') : Runs K tNext ρ P := r_weak (r_next h) w
theorem r_cont (h : P.ct ρ) : Runs K tCont ρ P := fun Y G σ H D S E => E.ct ρ σ H h S
theorem r_break (h : P.bk ρ) : Runs K tBreak ρ P := fun Y G σ H D S E => E.bk ρ σ H h S
theorem r_asg (h : Ev K te ρ d) (k : P.nx (ρ.set i (.dat d))) : Runs K (tAsg te (gName i)) ρ P := fun Y G σ H D ⟨O, I, g⟩ E =>
  h O Y H σ I _ fun v H' s hv => E.nx _ _ _ k ⟨O, (I.mono s).put (s := .dat d) ⟨v, rfl, hv⟩ (fun _ _ z => by cases z), g.trans (cut_mono s _)⟩
theorem r_asgM (h : EvM K te ρ d ρ') (k : P.nx (ρ'.set i (.dat d))) : Runs K (tAsg te (gName i)) ρ P := fun Y G σ H D ⟨O, I, g⟩ E =>
  h O Y H σ I _ fun v H' I' s hv => E.nx _ _ _ k ⟨O, I'.put (s := .dat d) ⟨v, rfl, hv⟩ (fun _ _ z => by cases z), g.trans s⟩
theorem new_cut {O Y : List Addr} {G H H' : Hp} {σ : L2.St} {a : Addr} (I : Env K O Y H ρ σ) (g : Same G (cut H O)) (s : Same H H') (hn : H a = none) : Same G (cut H' (a :: O)) := fun b o q => by
  obtain ⟨h1, h2⟩ := cut_some.mp (g b o q)
  refine cut_some.mpr ⟨fun z => ?_, s _ _ h2⟩
  rcases List.mem_cons.mp z with z | z
  · subst z
    rw [hn] at h2
    cases h2
  · exact h1 z
theorem r_asgN (h : EvN K te ρ d) (k : P.nx (ρ.set i (.own none d))) : Runs K (tAsg te (gName i)) ρ P := fun Y G σ H D ⟨O, I, g⟩ E =>
  h O Y H σ I _ fun a H' s hn ho => E.nx _ _ _ k ⟨a :: O, I.putNew s hn ho, new_cut I g s hn⟩
theorem r_freeze (i : Nat) {p : Option Addr} (hi : ρ[i]? = some (.own p d)) (h : Runs K t (ρ.set i (.dat d)) P) : Runs K t ρ P := fun Y G σ H D ⟨O, I, g⟩ E => by
  obtain ⟨O', sub, I'⟩ := I.freeze hi
  exact h Y G σ H D ⟨O', I', g.trans (cut_more sub)⟩ E
theorem r_if {b : Bool} (h : EvT K c ρ b) (h1 : b = true → Runs K t ρ P) (h2 : b = false → Runs K u ρ P) : Runs K (tIfS c t u) ρ P := fun Y G σ H D ⟨O, I, g⟩ E =>
  h O Y H σ I _ fun H' s => by
    cases b with
    | true =>
      show t D σ H'
      exact h1 rfl Y G σ H' D (Sta.ext I g s) E
    | false =>
      show u D σ H'
      exact h2 rfl Y G σ H' D (Sta.ext I g s) E
theorem r_ifM {b : Bool} (h : EvTM K c ρ b ρ') (h1 : b = true → Runs K t ρ' P) (h2 : b = false → Runs K u ρ' P) : Runs K (tIfS c t u) ρ P := fun Y G σ H D ⟨O, I, g⟩ E =>
  h O Y H σ I _ fun H' I' s => by
    cases b with
    | true =>
      show t D σ H'
      exact h1 rfl Y G σ H' D ⟨O, I', g.trans s⟩ E
    | false =>
      show u D σ H'
      exact h2 rfl Y G σ H' D ⟨O, I', g.trans s⟩ E
theorem r_ret (h : Ev K te ρ d) (k : P.rt d ρ) : Runs K (tRet te) ρ P := fun Y G σ H D ⟨O, I, g⟩ E =>
  h O Y H σ I _ fun v H' s hv => E.rt d ρ σ v H' k ⟨O, I.mono s, g.trans (cut_mono s _), hv⟩
theorem r_retM (h : EvM K te ρ d ρ') (k : P.rt d ρ') : Runs K (tRet te) ρ P := fun Y G σ H D ⟨O, I, g⟩ E =>
  h O Y H σ I _ fun v H' I' s hv => E.rt d ρ' σ v H' k ⟨O, I', g.trans s, hv⟩
theorem r_retN (k : P.rt .non ρ) : Runs K tRetN ρ P := fun Y G σ H D ⟨O, I, g⟩ E => E.rt .non ρ σ _ H k ⟨O, I, g, rfl⟩
theorem r_drop (h : Ev K te ρ d) (k : P.nx ρ) : Runs K (tDrop te) ρ P := fun Y G σ H D ⟨O, I, g⟩ E =>
  h O Y H σ I _ fun v H' s hv => E.nx ρ σ H' k (Sta.ext I g s)
theorem r_dropM (h : EvM K te ρ d ρ') (k : P.nx ρ') : Runs K (tDrop te) ρ P := fun Y G σ H D ⟨O, I, g⟩ E =>
  h O Y H σ I _ fun v H' I' s hv => E.nx ρ' σ H' k ⟨O, I', g.trans s⟩
/-- a, b = e1, e2 -/
theorem r_par {ta : TA} (h : EvA K ta ρ [d, e]) (k : P.nx ((ρ.set i (.dat d)).set j (.dat e))) : Runs K (tPar i j ta) ρ P := fun Y G σ H D ⟨O, I, g⟩ E =>
  h O Y H σ I _ fun vs H' s hv => by
    obtain ⟨v, r, e1, h1, w, r2, e2, h2, e3⟩ := hv
    have e3 : r2 = [] := e3
    subst e3
    subst e2
    subst e1
    exact ⟨v, w, rfl, E.nx _ _ _ k ⟨O, ((I.mono s).put (s := .dat d) ⟨v, rfl, h1⟩ (fun _ _ z => by cases z)).put (s := .dat e) ⟨w, rfl, h2⟩ (fun _ _ z => by cases z), g.trans (cut_mono s _)⟩⟩
/-- a new pair of own objects -/
theorem r_asgTup {ds : List Dt} {n : Nat} {t : TGs} (h : Ev K te ρ (.tup ds)) (hn : ds.length = n)
    (hg : ∀ O Y H σ vs, Env K O Y H ρ σ → HasL K (cut H (O ++ Y)) ds vs → ∀ Q, (∀ σ', Env K O Y H ρ' σ' → Q σ' H) → t vs σ H Q) (k : P.nx ρ') : Runs K (tAsg te (gTup K n t)) ρ P := fun Y G σ H D ⟨O, I, g⟩ E =>
  h O Y H σ I _ fun v H' s hv => by
    obtain ⟨a, xs, rfl, h2, h3⟩ := hv
    exact ⟨a, xs, rfl, SqT.of (cut_le _ _ _ _ h2), by rw [h3.len]; exact hn, hg O Y H' σ xs (I.mono s) h3 _ fun σ' I' => E.nx _ _ _ k ⟨O, I', g.trans (cut_mono s _)⟩⟩
/-- the targets of an unpacking: names -/
theorem g_nil : ∀ O Y H σ vs, Env K O Y H ρ σ → HasL K (cut H (O ++ Y)) [] vs → ∀ Q : L2.St → Hp → Prop, (∀ σ', Env K O Y H ρ σ' → Q σ' H) → gNil vs σ H Q := fun O Y H σ vs I hv Q q => ⟨hv, q σ I⟩
theorem g_cons {ds : List Dt} {t : TGs} {ρ2 : List Sl} (r : ∀ O Y H σ vs, Env K O Y H (ρ.set i (.dat d)) σ → HasL K (cut H (O ++ Y)) ds vs → ∀ Q : L2.St → Hp → Prop, (∀ σ', Env K O Y H ρ2 σ' → Q σ' H) → t vs σ H Q) :
    ∀ O Y H σ vs, Env K O Y H ρ σ → HasL K (cut H (O ++ Y)) (d :: ds) vs → ∀ Q : L2.St → Hp → Prop, (∀ σ', Env K O Y H ρ2 σ' → Q σ' H) → gCons (gName i) t vs σ H Q := fun O Y H σ vs I hv Q q => by
  obtain ⟨v, r', e1, h1, h2⟩ := hv
  subst e1
  exact ⟨v, r', rfl, r O Y H (σ.set i (some v)) r' (I.put (s := .dat d) ⟨v, rfl, h1⟩ (fun _ _ z => by cases z)) h2 Q q⟩
/-- found.append(e) -/
theorem r_app {p : Option Addr} {ds : List Dt} (hi : ρ[i]? = some (.own p (.lst ds))) (h : Ev K te ρ d) (hz : ds.length < sizeLine) (k : P.nx (ρ.set i (.own p (.lst (ds ++ [d]))))) :
    Runs K (tDrop (tBM K "list" rAppend (tVar i) (tCons te tNil))) ρ P := fun Y G σ H D ⟨O, I, g⟩ E => by
  obtain ⟨v, hv, ho, hp⟩ := I.own hi
  obtain ⟨a, xs, rfl, h2, hy, h3, h4⟩ := ho
  refine ⟨_, hv, .inl ⟨rfl, xs, .inl (.inl h3)⟩, ?_⟩
  refine h O Y H σ I _ fun w H' s hw => ?_
  refine ⟨a, xs, w, rfl, rfl, s _ _ h3, by rw [h4.len]; exact hz, E.nx _ _ _ k ⟨O, ?_, ?_⟩⟩
  · refine (I.mono s).change hi hv h2 ⟨a, xs ++ [w], rfl, h2, hy, upd_same, ?_⟩
    rw [cut_upd_in (List.mem_append_left _ h2)]
    exact (h4.mono (cut_mono s _)).snoc hw
  · rw [cut_upd_in h2]
    exact g.trans (cut_mono s _)
end
end DL
namespace DL
open PySem PySem.Spec L2
/-! ### what is walked -/
section
variable (K : PySem.W.Frag)
/-- data is walked, whatever else happens -/
def WkD (J : It) (O Y : List Addr) (H : Hp) (ds : List Dt) : Prop := ∀ i H' O', Same (cut H (O ++ Y)) (cut H' (O' ++ Y)) → (∀ a ∈ O' ++ Y, H' a ≠ none) →
  (i < ds.length → J.go i H') ∧ (ds.length ≤ i → J.stop i H') ∧ ∀ x H'', J.yld i H' x H'' → Same H' H'' ∧ ∀ d, ds[i]? = some d → Has K (cut H'' (O' ++ Y)) d x
/-- walked while nothing changes -/
def WkR (J : It) (O Y : List Addr) (H : Hp) (ds : List Dt) : Prop := ∀ i H' Z, Same H H' → (∀ a ∈ Z, H a = none) → (∀ a ∈ (O ++ Z) ++ Y, H' a ≠ none) →
  (i < ds.length → J.go i H') ∧ (ds.length ≤ i → J.stop i H') ∧ ∀ x H'', J.yld i H' x H'' → Same H' H'' ∧ ∀ d, ds[i]? = some d → Has K (cut H'' ((O ++ Z) ++ Y)) d x
def EvI (wi : TI) (ρ : List Sl) (ds : List Dt) : Prop := ∀ O Y H σ, Env K O Y H ρ σ → ∀ R : It → Hp → Prop, (∀ J H', Same H H' → WkD K J O Y H' ds → R J H') → wi σ H R
def EvIR (wi : TI) (ρ : List Sl) (ds : List Dt) : Prop := ∀ O Y H σ, Env K O Y H ρ σ → ∀ R : It → Hp → Prop, (∀ J H', Same H H' → WkR K J O Y H' ds → R J H') → wi σ H R
def EvIM (wi : TI) (ρ : List Sl) (ds : List Dt) (ρ' : List Sl) : Prop := ∀ O Y H σ, Env K O Y H ρ σ → ∀ R : It → Hp → Prop, (∀ J H', Env K O Y H' ρ' σ → Same (cut H O) (cut H' O) → WkD K J O Y H' ds → R J H') → wi σ H R
/-- the target of a walk takes a datum: the slots among sl are stored -/
def Tg (g : TG) (sl : List Nat) (d : Dt) (ρ ρ' : List Sl) : Prop := ∀ O Y H σ v, Env K O Y H ρ σ → Has K (cut H (O ++ Y)) d v → ∀ Q : L2.St → Hp → Prop,
  (∀ σ', Env K O Y H ρ' σ' → σ'.length = σ.length → (∀ i, i ∉ sl → σ'[i]? = σ[i]?) → Q σ' H) → g v σ H Q
end
section
variable {K : PySem.W.Frag} {ρ ρ' : List Sl} {P : Po} {te ta tb tx : TE} {c : TT} {t u : TS} {d e : Dt} {i j : Nat} {wi : TI} {g : TG} {tt : TT}
theorem cut_fresh {H H' : Hp} {O Y Z : List Addr} (s : Same H H') (hz : ∀ a ∈ Z, H a = none) : Same (cut H (O ++ Y)) (cut H' ((O ++ Z) ++ Y)) := fun b o hb => by
  obtain ⟨h1, h2⟩ := cut_some.mp hb
  refine cut_some.mpr ⟨fun z => ?_, s _ _ h2⟩
  simp only [List.mem_append] at z h1
  rcases z with (z | z) | z
  · exact h1 (.inl z)
  · rw [hz b z] at h2
    cases h2
  · exact h1 (.inr z)
theorem cut_perm {H : Hp} {X Z : List Addr} (h : ∀ b, b ∈ X ↔ b ∈ Z) : cut H X = cut H Z := by
  funext b
  by_cases hb : b ∈ X
  · rw [cut_in hb, cut_in ((h b).mp hb)]
  · rw [cut_out hb, cut_out fun z => hb ((h b).mpr z)]
theorem EvI.r {ds : List Dt} (h : EvI K wi ρ ds) : EvIR K wi ρ ds := fun O Y H σ I R q => h O Y H σ I R fun J H' s w => q J H' s fun i H2 Z s2 hz hd => w i H2 (O ++ Z) (cut_fresh s2 hz) hd
theorem EvI.m {ds : List Dt} (h : EvI K wi ρ ds) : EvIM K wi ρ ds ρ := fun O Y H σ I R q => h O Y H σ I R fun J H' s w => q J H' (I.mono s) (cut_mono s _) w
theorem EvI.is {ds es : List Dt} (h : EvI K wi ρ ds) (e : ds = es) : EvI K wi ρ es := by
  rw [← e]
  exact h
theorem EvIR.is {ds es : List Dt} (h : EvIR K wi ρ ds) (e : ds = es) : EvIR K wi ρ es := by
  rw [← e]
  exact h
theorem wk_list {O Y : List Addr} {H : Hp} {a : Addr} {xs : List V} {ds : List Dt} (h : Rd (cut H (O ++ Y)) a (.lst xs)) (hv : HasL K (cut H (O ++ Y)) ds xs) : WkD K (Itl K a) O Y H ds := fun i H' O' s hd => by
  have h' : SqL K H' a xs := .inl ((Same.rd (cut_le _ _)).rd _ _ trivial ((Same.rd s).rd _ _ trivial h))
  refine ⟨fun hi => ?_, fun hi => ⟨xs, h', by rw [hv.len]; exact hi⟩, fun x H'' hy => ?_⟩
  · have hx : i < xs.length := by rw [hv.len]; exact hi
    exact ⟨xs, xs[i], h', List.getElem?_eq_getElem hx⟩
  · obtain ⟨rfl, hy⟩ := hy
    refine ⟨Same.refl _, fun d hd => ?_⟩
    obtain ⟨v, e1, e2⟩ := hv.get hd
    have e3 := hy xs h'
    rw [e1] at e3
    cases e3
    exact e2.mono s
theorem wr_list {O Y : List Addr} {H : Hp} {a : Addr} {xs : List V} {ds : List Dt} (h : Rd H a (.lst xs)) (hv : HasL K (cut H (O ++ Y)) ds xs) : WkR K (Itl K a) O Y H ds := fun i H' Z s hz hd => by
  have h' : SqL K H' a xs := .inl ((Same.rd s).rd _ _ trivial h)
  refine ⟨fun hi => ?_, fun hi => ⟨xs, h', by rw [hv.len]; exact hi⟩, fun x H'' hy => ?_⟩
  · have hx : i < xs.length := by rw [hv.len]; exact hi
    exact ⟨xs, xs[i], h', List.getElem?_eq_getElem hx⟩
  · obtain ⟨rfl, hy⟩ := hy
    refine ⟨Same.refl _, fun d hd => ?_⟩
    obtain ⟨v, e1, e2⟩ := hv.get hd
    have e3 := hy xs h'
    rw [e1] at e3
    cases e3
    exact e2.mono (cut_fresh s hz)
theorem wk_tup {O Y : List Addr} {H : Hp} {a : Addr} {xs : List V} {ds : List Dt} (h : cut H (O ++ Y) a = some (.tup xs)) (hv : HasL K (cut H (O ++ Y)) ds xs) : WkD K (Itt K a) O Y H ds := fun i H' O' s hd => by
  have h' : SqT K H' a xs := SqT.of (cut_le _ _ _ _ (s _ _ h))
  refine ⟨fun hi => ?_, fun hi => ⟨xs, h', by rw [hv.len]; exact hi⟩, fun x H'' hy => ?_⟩
  · have hx : i < xs.length := by rw [hv.len]; exact hi
    exact ⟨xs, xs[i], h', List.getElem?_eq_getElem hx⟩
  · obtain ⟨rfl, hy⟩ := hy
    refine ⟨Same.refl _, fun d hd => ?_⟩
    obtain ⟨v, e1, e2⟩ := hv.get hd
    have e3 := hy xs h'
    rw [e1] at e3
    cases e3
    exact e2.mono s
theorem ei_list {ds : List Dt} (h : Ev K te ρ (.lst ds)) : EvI K (iList K te) ρ ds := fun O Y H σ I R q => h O Y H σ I _ fun v H1 s hv => by
  obtain ⟨a, xs, rfl, h2, h3⟩ := hv
  exact ⟨a, rfl, ⟨xs, .inl ((Same.rd (cut_le _ _)).rd _ _ trivial h2)⟩, q _ H1 s (wk_list h2 h3)⟩
theorem eir_list {ds : List Dt} (h : EvR K te ρ (.lst ds)) : EvIR K (iList K te) ρ ds := fun O Y H σ I R q => h O Y H σ I _ fun v H1 s hv => by
  obtain ⟨a, xs, rfl, h2, h3⟩ := hv.lst
  exact ⟨a, rfl, ⟨xs, .inl h2⟩, q _ H1 s (wr_list h2 h3)⟩
theorem eim_list {ds : List Dt} (h : EvM K te ρ (.lst ds) ρ') : EvIM K (iList K te) ρ ds ρ' := fun O Y H σ I R q => h O Y H σ I _ fun v H1 I' s hv => by
  obtain ⟨a, xs, rfl, h2, h3⟩ := hv
  exact ⟨a, rfl, ⟨xs, .inl ((Same.rd (cut_le _ _)).rd _ _ trivial h2)⟩, q _ H1 I' s (wk_list h2 h3)⟩
theorem ei_tup {ds : List Dt} (h : Ev K te ρ (.tup ds)) : EvI K (iTup K te) ρ ds := fun O Y H σ I R q => h O Y H σ I _ fun v H1 s hv => by
  obtain ⟨a, xs, rfl, h2, h3⟩ := hv
  exact ⟨a, rfl, ⟨xs, SqT.of (cut_le _ _ _ _ h2)⟩, q _ H1 s (wk_tup h2 h3)⟩
/-- the numbers of a range -/
def nums (lo : Int) (n : Nat) : List Dt := (List.range n).map fun (k : Nat) => Dt.int (lo + (k : Int))
theorem nums_len (lo : Int) (n : Nat) : (nums lo n).length = n := by unfold nums; rw [List.length_map, List.length_range]
theorem nums_get {lo : Int} {n i : Nat} {d : Dt} (h : (nums lo n)[i]? = some d) : d = .int (lo + (i : Int)) := by
  unfold nums at h
  rw [List.getElem?_map] at h
  cases q : (List.range n)[i]? with
  | none => rw [q] at h; cases h
  | some k =>
    rw [q] at h
    have hk : i < n := by
      have := (List.getElem?_eq_some_iff.mp q).1
      rw [List.length_range] at this
      exact this
    rw [List.getElem?_range hk] at q
    cases q
    cases h
    rfl
theorem wk_rng {O Y : List Addr} {H : Hp} {lo : Int} {n : Nat} : WkD K (Itr lo n) O Y H (nums lo n) := fun i H' O' s hd => by
  rw [nums_len]
  refine ⟨fun hi => hi, fun hi => hi, fun x H'' hy => ?_⟩
  obtain ⟨e1, e2⟩ := hy
  subst e1
  subst e2
  exact ⟨Same.refl _, fun d hd => by rw [nums_get hd]; rfl⟩
theorem ei_rng1 {ta : TA} {n : Int} (h : EvA K ta ρ [.int n]) (hn : -(2 ^ 62) ≤ n ∧ n < 2 ^ 62) : EvI K (iRng1 ta) ρ (nums 0 n.toNat) := fun O Y H σ I R q => h O Y H σ I _ fun vs H1 s hv => by
  obtain ⟨v, r, rfl, e2, e3⟩ := hv
  cases e2
  cases e3
  exact ⟨n, rfl, hn.1, hn.2, q _ H1 s wk_rng⟩
theorem eim_rng1 {ta : TA} {n : Int} (h : EvAM K ta ρ [.int n] ρ') (hn : -(2 ^ 62) ≤ n ∧ n < 2 ^ 62) : EvIM K (iRng1 ta) ρ (nums 0 n.toNat) ρ' := fun O Y H σ I R q => h O Y H σ I _ fun vs H1 I' s hv => by
  obtain ⟨v, r, rfl, e2, e3⟩ := hv
  cases e2
  cases e3
  exact ⟨n, rfl, hn.1, hn.2, q _ H1 I' s wk_rng⟩
theorem ei_rng2 {ta : TA} {m n : Int} (h : EvA K ta ρ [.int m, .int n]) (hn : -(2 ^ 62) ≤ m ∧ m < 2 ^ 62 ∧ -(2 ^ 62) ≤ n ∧ n < 2 ^ 62) : EvI K (iRng2 ta) ρ (nums m (n - m).toNat) := fun O Y H σ I R q => h O Y H σ I _ fun vs H1 s hv => by
  obtain ⟨v, r, rfl, e2, w, r2, rfl, e3, e4⟩ := hv
  cases e2
  cases e3
  cases e4
  exact ⟨m, n, rfl, hn, q _ H1 s wk_rng⟩
/-! ### targets -/
theorem tg_name {i : Nat} : Tg K (gName i) [i] d ρ (ρ.set i (.dat d)) := fun O Y H σ v I hv Q q => q _ (I.put (s := .dat d) ⟨v, rfl, hv⟩ (fun _ _ z => by cases z)) (by rw [List.length_set]) fun k hk => List.getElem?_set_ne fun z => hk (by simp [z])
/-- the targets of an unpacking -/
def Tgs (K : PySem.W.Frag) (t : TGs) (sl : List Nat) (ds : List Dt) (ρ ρ' : List Sl) : Prop := ∀ O Y H σ vs, Env K O Y H ρ σ → HasL K (cut H (O ++ Y)) ds vs → ∀ Q : L2.St → Hp → Prop,
  (∀ σ', Env K O Y H ρ' σ' → σ'.length = σ.length → (∀ i, i ∉ sl → σ'[i]? = σ[i]?) → Q σ' H) → t vs σ H Q
theorem tgs_nil : Tgs K gNil [] [] ρ ρ := fun O Y H σ vs I hv Q q => ⟨hv, q σ I rfl fun _ _ => rfl⟩
theorem tgs_cons {ds : List Dt} {t : TGs} {sl sl' : List Nat} {g : TG} {ρ1 ρ2 : List Sl} (h : Tg K g sl d ρ ρ1) (r : Tgs K t sl' ds ρ1 ρ2) : Tgs K (gCons g t) (sl ++ sl') (d :: ds) ρ ρ2 := fun O Y H σ vs I hv Q q => by
  obtain ⟨v, r', e1, h1, h2⟩ := hv
  subst e1
  refine ⟨v, r', rfl, h O Y H σ v I h1 _ fun σ1 I1 l1 k1 => r O Y H σ1 r' I1 h2 Q fun σ2 I2 l2 k2 => q σ2 I2 (l2.trans l1) fun i hi => ?_⟩
  rw [k2 i fun z => hi (List.mem_append_right _ z), k1 i fun z => hi (List.mem_append_left _ z)]
theorem tg_tup {ds : List Dt} {t : TGs} {sl : List Nat} {n : Nat} (h : Tgs K t sl ds ρ ρ') (hn : ds.length = n) : Tg K (gTup K n t) sl (.tup ds) ρ ρ' := fun O Y H σ v I hv Q q => by
  obtain ⟨a, xs, rfl, h2, h3⟩ := hv
  exact ⟨a, xs, rfl, SqT.of (cut_le _ _ _ _ h2), by rw [h3.len]; exact hn, h O Y H σ xs I h3 Q q⟩
theorem r_asgTg {sl : List Nat} (h : Ev K te ρ d) (hg : Tg K g sl d ρ ρ') (k : P.nx ρ') : Runs K (tAsg te g) ρ P := fun Y G σ H D ⟨O, I, gg⟩ E =>
  h O Y H σ I _ fun v H' s hv => hg O Y H' σ v (I.mono s) hv _ fun σ' I' _ _ => E.nx _ _ _ k ⟨O, I', gg.trans (cut_mono s _)⟩
theorem r_asgTgM {sl : List Nat} {ρ1 : List Sl} (h : EvM K te ρ d ρ1) (hg : Tg K g sl d ρ1 ρ') (k : P.nx ρ') : Runs K (tAsg te g) ρ P := fun Y G σ H D ⟨O, I, gg⟩ E =>
  h O Y H σ I _ fun v H' I' s hv => hg O Y H' σ v I' hv _ fun σ' I'' _ _ => E.nx _ _ _ k ⟨O, I'', gg.trans s⟩
/-! ### for -/
theorem r_forM {ds : List Dt} {sl : List Nat} {ρ1 : List Sl} (h : EvIM K wi ρ ds ρ1) (Inv : Nat → List Sl → Prop) (h0 : Inv 0 ρ1)
    (hs : ∀ i d ρ2, ds[i]? = some d → Inv i ρ2 → ∃ ρ3, Tg K g sl d ρ2 ρ3 ∧ Runs K t ρ3 { nx := Inv (i + 1), ct := Inv (i + 1), bk := P.nx, rt := P.rt })
    (hd : ∀ ρ2, Inv ds.length ρ2 → P.nx ρ2) : Runs K (tFor wi g t) ρ P := fun Y G σ H D ⟨O, I, gg⟩ E => by
  refine h O Y H σ I _ fun J H1 I1 s1 w => ?_
  refine ⟨fun i m σ2 H2 => m = ds.length - i ∧ i ≤ ds.length ∧ ∃ ρ2, Inv i ρ2 ∧ ∃ O2, Env K O2 Y H2 ρ2 σ2 ∧ Same (cut H1 O) (cut H2 O2) ∧ Same (cut H1 (O ++ Y)) (cut H2 (O2 ++ Y)), ⟨ds.length, by omega, by omega, ρ1, h0, O, I1, Same.refl _, Same.refl _⟩, fun i m σ2 H2 hW => ?_⟩
  obtain ⟨hm, hi, ρ2, hI, O2, I2, g2, g3⟩ := hW
  obtain ⟨w1, w2, w3⟩ := w i H2 O2 g3 I2.dom
  by_cases hlt : i < ds.length
  · refine .inr ⟨w1 hlt, fun σ3 H3 => ∃ ρ3, Inv (i + 1) ρ3 ∧ ∃ O3, Env K O3 Y H3 ρ3 σ3 ∧ Same (cut H1 O) (cut H3 O3) ∧ Same (cut H1 (O ++ Y)) (cut H3 (O3 ++ Y)), fun σ3 H3 ⟨ρ3, a1, O3, a2, a3, a4⟩ => ⟨ds.length - (i + 1), by omega, rfl, hlt, ρ3, a1, O3, a2, a3, a4⟩, fun x H3 hy => ?_⟩
    obtain ⟨s3, w4⟩ := w3 x H3 hy
    have hdd : ds[i]? = some ds[i] := List.getElem?_eq_getElem hlt
    obtain ⟨ρ3, tg, run⟩ := hs i ds[i] ρ2 hdd hI
    refine tg O2 Y H3 σ2 x (I2.mono s3) (w4 _ hdd) _ fun σ4 I4 _ _ => ?_
    have g4 : Same G (cut H3 O2) := (gg.trans s1).trans (g2.trans (cut_mono s3 _))
    -- the body runs; what it keeps is told by two parts of the heap: G and what is walked
    refine run Y (cut H3 O2) σ4 H3 _ ⟨O2, I4, Same.refl _⟩ ⟨fun ρ5 σ5 H5 n5 ⟨O5, I5, k5⟩ => ?_, fun d5 ρ5 σ5 v5 H5 n5 ⟨O5, I5, k5, hv⟩ => ?_, fun ρ5 σ5 H5 n5 ⟨O5, I5, k5⟩ => ?_, fun ρ5 σ5 H5 n5 ⟨O5, I5, k5⟩ => ?_⟩
    · exact ⟨ρ5, n5, O5, I5, (g2.trans (cut_mono s3 _)).trans k5, (g3.trans (cut_mono s3 _)).trans (cut_app' k5)⟩
    · exact E.rt d5 ρ5 σ5 v5 H5 n5 ⟨O5, I5, g4.trans k5, hv⟩
    · exact E.nx ρ5 σ5 H5 n5 ⟨O5, I5, g4.trans k5⟩
    · exact ⟨ρ5, n5, O5, I5, (g2.trans (cut_mono s3 _)).trans k5, (g3.trans (cut_mono s3 _)).trans (cut_app' k5)⟩
  · have e : i = ds.length := by omega
    exact .inl ⟨w2 (by omega), E.nx ρ2 σ2 H2 (hd ρ2 (by rw [← e]; exact hI)) ⟨O2, I2, (gg.trans s1).trans g2⟩⟩
where
  cut_app' {H H' : Hp} {O O' Y : List Addr} (e : Same (cut H O) (cut H' O')) : Same (cut H (O ++ Y)) (cut H' (O' ++ Y)) := fun b o q => by
    obtain ⟨h1, h2⟩ := cut_some.mp q
    have h3 : b ∉ O := fun z => h1 (List.mem_append_left _ z)
    obtain ⟨h4, h5⟩ := cut_some.mp (e b o (cut_some.mpr ⟨h3, h2⟩))
    refine cut_some.mpr ⟨fun z => ?_, h5⟩
    rcases List.mem_append.mp z with z | z
    · exact h4 z
    · exact h1 (List.mem_append_right _ z)
theorem r_for {ds : List Dt} {sl : List Nat} (h : EvI K wi ρ ds) (Inv : Nat → List Sl → Prop) (h0 : Inv 0 ρ)
    (hs : ∀ i d ρ2, ds[i]? = some d → Inv i ρ2 → ∃ ρ3, Tg K g sl d ρ2 ρ3 ∧ Runs K t ρ3 { nx := Inv (i + 1), ct := Inv (i + 1), bk := P.nx, rt := P.rt })
    (hd : ∀ ρ2, Inv ds.length ρ2 → P.nx ρ2) : Runs K (tFor wi g t) ρ P := r_forM h.m Inv h0 hs hd
/-! ### list comprehensions -/
/-- the slots ahead of a block -/
def wipeS (ρ : List Sl) : List Nat → List Sl
  | [] => ρ
  | v :: vs => (wipeS ρ vs).set v .un
theorem Env.wipe {O Y : List Addr} {H : Hp} {σ : L2.St} (I : Env K O Y H ρ σ) : ∀ vs : List Nat, Env K O Y H (wipeS ρ vs) (wipe σ vs)
  | [] => I
  | v :: vs => by
    have J := Env.wipe I vs
    have h := J.put (i := v) (s := .un) (v := .non) trivial (fun _ _ z => by cases z)
    -- the value stored does not matter
    refine ⟨by rw [wipe_length, I.len, ← I.len, ← wipe_length σ (v :: vs)]; rw [wipe_length]; rw [I.len]; exact (by have := h.len; rw [List.length_set, wipe_length, I.len] at this; exact this), fun i s hs => ?_, fun i j p q d e w hij hi hj h1 h2 => ?_, I.dom⟩
    · by_cases hiv : v = i
      · subst hiv
        have hl : v < (wipeS ρ vs).length := by
          have := (List.getElem?_eq_some_iff.mp hs).1
          rw [show wipeS ρ (v :: vs) = (wipeS ρ vs).set v .un from rfl, List.length_set] at this
          exact this
        rw [show wipeS ρ (v :: vs) = (wipeS ρ vs).set v .un from rfl, List.getElem?_set_self hl] at hs
        cases hs
        exact ⟨none, by rw [show L2.wipe σ (v :: vs) = (L2.wipe σ vs).set v none from rfl]; exact List.getElem?_set_self (by rw [J.len]; exact hl), trivial⟩
      · rw [show wipeS ρ (v :: vs) = (wipeS ρ vs).set v .un from rfl, List.getElem?_set_ne hiv] at hs
        rw [show L2.wipe σ (v :: vs) = (L2.wipe σ vs).set v none from rfl, List.getElem?_set_ne hiv]
        exact J.ok i s hs
    · have aux : ∀ (m : Nat) (r : Option Addr) (c : Dt), (wipeS ρ (v :: vs))[m]? = some (.own r c) → v ≠ m ∧ (wipeS ρ vs)[m]? = some (.own r c) := fun m r c hm => by
        by_cases hvm : v = m
        · subst hvm
          have hl : v < (wipeS ρ vs).length := by
            have := (List.getElem?_eq_some_iff.mp hm).1
            rw [show wipeS ρ (v :: vs) = (wipeS ρ vs).set v .un from rfl, List.length_set] at this
            exact this
          rw [show wipeS ρ (v :: vs) = (wipeS ρ vs).set v .un from rfl, List.getElem?_set_self hl] at hm
          cases hm
        · rw [show wipeS ρ (v :: vs) = (wipeS ρ vs).set v .un from rfl, List.getElem?_set_ne hvm] at hm
          exact ⟨hvm, hm⟩
      obtain ⟨a1, a2⟩ := aux i p d hi
      obtain ⟨b1, b2⟩ := aux j q e hj
      rw [show L2.wipe σ (v :: vs) = (L2.wipe σ vs).set v none from rfl, List.getElem?_set_ne a1] at h1
      rw [show L2.wipe σ (v :: vs) = (L2.wipe σ vs).set v none from rfl, List.getElem?_set_ne b1] at h2
      exact J.sep i j p q d e w hij a2 b2 h1 h2
/-- an address that is new to all that is known is not looked at -/
theorem Env.hide {O Y : List Addr} {H1 H3 : Hp} {σ : L2.St} {D : Addr} {o3 : HO} (I1 : Env K O Y H1 ρ σ) (s13 : Same H1 H3) (hD : H1 D = none) (h3 : H3 D = some o3) : Env K O (D :: Y) H3 ρ σ := by
  have hDX : D ∉ O ++ Y := new_out I1.dom hD
  have sc : Same (cut H1 (O ++ Y)) (cut H3 (O ++ (D :: Y))) := fun b o hb => by
    obtain ⟨h1, h2⟩ := cut_some.mp hb
    refine cut_some.mpr ⟨fun z => ?_, s13 _ _ h2⟩
    rcases List.mem_append.mp z with z | z
    · exact h1 (List.mem_append_left _ z)
    · rcases List.mem_cons.mp z with z | z
      · subst z; rw [hD] at h2; cases h2
      · exact h1 (List.mem_append_right _ z)
  refine ⟨I1.len, fun k t hk => ?_, I1.sep, fun a ha => ?_⟩
  · obtain ⟨o, h1, h2⟩ := I1.ok k t hk
    refine ⟨o, h1, ?_⟩
    cases t with
    | un => trivial
    | dat d => obtain ⟨v, g1, g2⟩ := h2; exact ⟨v, g1, g2.mono sc⟩
    | own p d =>
      obtain ⟨v, g1, g2, g3⟩ := h2
      obtain ⟨a, ga, gb⟩ := g2.ref
      have haD : a ≠ D := fun z => hDX (List.mem_append_left _ (by rw [← z]; exact gb))
      refine ⟨v, g1, ?_, g3⟩
      cases d with
      | lst ds => obtain ⟨b, ys, k1, k2, ky, k3, k4⟩ := g2; have eb : a = b := V.ref.inj (ga.symm.trans k1); subst eb; exact ⟨a, ys, k1, k2, fun z => by (rcases List.mem_cons.mp z with z | z; exact haD z; exact ky z), s13 _ _ k3, k4.mono sc⟩
      | dk ks ds => obtain ⟨b, ys, k1, k2, ky, k3, kz, k4⟩ := g2; have eb : a = b := V.ref.inj (ga.symm.trans k1); subst eb; exact ⟨a, ys, k1, k2, fun z => by (rcases List.mem_cons.mp z with z | z; exact haD z; exact ky z), s13 _ _ k3, kz, k4.mono sc⟩
      | dt ks ds => obtain ⟨b, ys, k1, k2, ky, k3, kz, k4⟩ := g2; have eb : a = b := V.ref.inj (ga.symm.trans k1); subst eb; exact ⟨a, ys, k1, k2, fun z => by (rcases List.mem_cons.mp z with z | z; exact haD z; exact ky z), s13 _ _ k3, kz, k4.mono sc⟩
      | on f ds => obtain ⟨b, ys, k1, k2, ky, kb, k3, k4⟩ := g2; have eb : a = b := V.ref.inj (ga.symm.trans k1); subst eb; exact ⟨a, ys, k1, k2, fun z => by (rcases List.mem_cons.mp z with z | z; exact haD z; exact ky z), kb, s13 _ _ k3, k4.mono sc⟩
      | _ => exact False.elim g2
  · rcases List.mem_append.mp ha with z | z
    · exact Same.dom s13 (I1.dom a (List.mem_append_left _ z))
    · rcases List.mem_cons.mp z with z | z
      · subst z; rw [h3]; exact fun z => by cases z
      · exact Same.dom s13 (I1.dom a (List.mem_append_right _ z))
theorem wipe_eq {σ σ' : L2.St} (hl : σ'.length = σ.length) : ∀ {vs : List Nat}, (∀ i, i ∉ vs → σ'[i]? = σ[i]?) → wipe σ' vs = wipe σ vs := fun {vs} h => by
  have key : ∀ (us : List Nat) (i : Nat) (τ : L2.St), (wipe τ us)[i]? = if i ∈ us ∧ i < τ.length then some none else τ[i]? := fun us => by
    induction us with
    | nil => intro i τ; simp [wipe]
    | cons u us ih =>
      intro i τ
      show ((wipe τ us).set u none)[i]? = _
      by_cases hu : u = i
      · subst hu
        by_cases hl : u < τ.length
        · rw [List.getElem?_set_self (by rw [wipe_length]; exact hl), if_pos ⟨List.mem_cons_self, hl⟩]
        · rw [List.getElem?_eq_none (by rw [List.length_set, wipe_length]; omega), if_neg (fun z => hl z.2), List.getElem?_eq_none (by omega)]
      · rw [List.getElem?_set_ne hu, ih]
        by_cases hi : i ∈ us
        · simp [hi]
        · have : i ∉ u :: us := by simp [hi]; exact fun z => hu z.symm
          simp [hi, this]
  apply List.ext_getElem?
  intro i
  rw [key, key, hl]
  by_cases hi : i ∈ vs ∧ i < σ.length
  · rw [if_pos hi, if_pos hi]
  · rw [if_neg hi, if_neg hi]
    by_cases hv : i ∈ vs
    · have : ¬ i < σ.length := fun z => hi ⟨hv, z⟩
      rw [List.getElem?_eq_none (by omega), List.getElem?_eq_none (by omega)]
    · exact h i hv
theorem wipe_set {σ : L2.St} {vs : List Nat} {σ' : L2.St} (hl : σ'.length = (wipe σ vs).length) (h : ∀ i, i ∉ vs → σ'[i]? = (wipe σ vs)[i]?) : wipe σ' vs = wipe σ vs := by
  have e := wipe_eq (σ := wipe σ vs) (σ' := σ') hl h
  rw [e]
  exact wipe_eq (wipe_length σ vs) fun i hi => by
    have key : ∀ (us : List Nat), i ∉ us → (wipe σ us)[i]? = σ[i]? := fun us => by
      induction us with
      | nil => intro _; rfl
      | cons u us ih =>
        intro hu
        show ((wipe σ us).set u none)[i]? = _
        rw [List.getElem?_set_ne (fun z => hu (by simp [z])), ih (fun z => hu (List.mem_cons_of_mem _ z))]
    exact key vs hi
/-- what a comprehension makes of items -/
def made {α : Type} (c : α → Bool) (f : α → Dt) (xs : List α) : List Dt := (xs.filter c).map f
theorem made_snoc {α : Type} {c : α → Bool} {f : α → Dt} {xs : List α} {x : α} : made c f (xs ++ [x]) = if c x = true then made c f xs ++ [f x] else made c f xs := by
  unfold made
  rw [List.filter_append]
  by_cases h : c x = true
  · rw [if_pos h, List.filter_cons, if_pos h, List.map_append]
    rfl
  · rw [if_neg h, List.filter_cons, if_neg h]
    simp
theorem made_len {α : Type} (c : α → Bool) (f : α → Dt) (xs : List α) : (made c f xs).length ≤ xs.length := by
  unfold made
  rw [List.length_map]
  exact List.length_filter_le _ _
theorem made_map {α β : Type} (h : α → β) (c : β → Bool) (f : β → Dt) (xs : List α) : made c f (xs.map h) = made (fun x => c (h x)) (fun x => f (h x)) xs := by
  unfold made
  rw [List.filter_map, List.map_map]
  rfl
/-- one turn of a comprehension: the item x, at turn i -/
structure LcTurn (K : PySem.W.Frag) (g : TG) (tt : TT) (te : TE) (vs : List Nat) (ρ : List Sl) (d : Dt) (b : Bool) (f : Dt) : Prop where
  ex : ∃ sl ρ', (∀ i ∈ sl, i ∈ vs) ∧ Tg K g sl d (wipeS ρ vs) ρ' ∧ EvT K tt ρ' b ∧ (b = true → Ev K te ρ' f)
theorem lc_at {α : Type} {vs : List Nat} (en : Nat → α → Dt) (xs : List α) (c : α → Bool) (f : α → Dt) {O Y : List Addr} {H : Hp} {σ : L2.St} (I : Env K O Y H ρ σ)
    (h : ∀ R : It → Hp → Prop, (∀ J H', Same H H' → WkR K J O Y H' (xs.mapIdx en) → R J H') → wi σ H R)
    (ht : ∀ i x, xs[i]? = some x → LcTurn K g tt te vs ρ (en i x) (c x) (f x)) (hz : xs.length < sizeLine) {Q : VK} (q : ∀ a H', Same H H' → H a = none → OwnAt K (a :: O) Y H' (.lst (made c f xs)) (.ref a) → Q (.ref a) H') : tLc wi g tt te vs σ H Q := by
  refine h _ fun J H1 s1 w => fun D hD => ?_
  have hDn : H D = none := s1.free hD
  have hDX : D ∉ O ++ Y := new_out (dom_mono I.dom s1) hD
  have I1 := I.mono s1
  refine ⟨fun i m H2 => m = xs.length - i ∧ i ≤ xs.length ∧ Same H1 H2 ∧ ∃ ws, H2 D = some (.lst ws) ∧ HasL K (cut H2 (D :: O ++ Y)) (made c f (xs.take i)) ws, ⟨xs.length, by omega, by omega, same_new hD, [], upd_same, by unfold made; rfl⟩, fun i m H2 hW => ?_⟩
  obtain ⟨hm, hi, s2, ws, hws, hh⟩ := hW
  have hlen : (xs.mapIdx en).length = xs.length := List.length_mapIdx
  have dmZ : ∀ a ∈ (O ++ [D]) ++ Y, H2 a ≠ none := fun a ha => by
    simp only [List.mem_append, List.mem_singleton] at ha
    rcases ha with (z | z) | z
    · exact Same.dom s2 (I1.dom a (List.mem_append_left _ z))
    · subst z
      rw [hws]
      exact fun z => by cases z
    · exact Same.dom s2 (I1.dom a (List.mem_append_right _ z))
  obtain ⟨w1, w2, w3⟩ := w i H2 [D] s2 (fun a ha => by rw [List.mem_singleton.mp ha]; exact hD) dmZ
  rw [hlen] at w1 w2
  by_cases hlt : i < xs.length
  · refine .inr ⟨w1 hlt, fun H3 => Same H1 H3 ∧ ∃ ws, H3 D = some (.lst ws) ∧ HasL K (cut H3 (D :: O ++ Y)) (made c f (xs.take (i + 1))) ws, fun H3 ⟨a1, a2⟩ => ⟨xs.length - (i + 1), by omega, rfl, hlt, a1, a2⟩, fun x H3 hy => ?_⟩
    obtain ⟨s3, w4⟩ := w3 x H3 hy
    have hx : xs[i]? = some xs[i] := List.getElem?_eq_getElem hlt
    obtain ⟨sl, ρ', hsl, tg, ett, ete⟩ := (ht i xs[i] hx).ex
    have hdd : (xs.mapIdx en)[i]? = some (en i xs[i]) := by rw [List.getElem?_mapIdx, hx]; rfl
    have tk : xs.take (i + 1) = xs.take i ++ [xs[i]] := by rw [List.take_add_one, hx]; rfl
    have s13 : Same H1 H3 := s2.trans s3
    have hws3 : H3 D = some (.lst ws) := s3 _ _ hws
    have I3 : Env K O (D :: Y) H3 ρ σ := I1.hide s13 hD hws3
    have perm : ∀ (H' : Hp), cut H' (O ++ (D :: Y)) = cut H' (D :: O ++ Y) := fun H' => cut_perm fun b => by
      simp only [List.mem_append, List.mem_cons, List.cons_append]
      constructor
      · rintro (z | z | z) <;> simp [z]
      · rintro (z | z | z) <;> simp [z]
    have perm2 : ∀ (H' : Hp), cut H' ((O ++ [D]) ++ Y) = cut H' (O ++ (D :: Y)) := fun H' => by rw [List.append_assoc]; rfl
    have hit : Has K (cut H3 (O ++ (D :: Y))) (en i xs[i]) x := by
      have := w4 _ hdd
      rw [perm2] at this
      exact this
    refine tg O (D :: Y) H3 (wipe σ vs) x (I3.wipe vs) hit _ fun σ4 I4 l4 k4 => ⟨wipe_set l4 fun k hk => k4 k fun z => hk (hsl k z), ?_⟩
    refine ett O (D :: Y) H3 σ4 I4 _ fun H4 s4 => ?_
    by_cases hc : c xs[i] = true
    · rw [if_pos hc]
      refine ete hc O (D :: Y) H4 σ4 (I4.mono s4) _ fun y H5 s5 hy5 => ?_
      have hws5 : H5 D = some (.lst ws) := s5 _ _ (s4 _ _ hws3)
      have hh5 : HasL K (cut H5 (D :: O ++ Y)) (made c f (xs.take i)) ws := hh.mono (cut_mono ((s3.trans s4).trans s5) _)
      refine ⟨ws, hws5, ?_, fun b o hb => ?_, ws ++ [y], upd_same, ?_⟩
      · rw [hh.len]
        have h1 := made_len c f (xs.take i)
        have h2 : (xs.take i).length ≤ xs.length := by rw [List.length_take]; omega
        omega
      · have hbD : b ≠ D := ne_of_none hb hD
        rw [upd_ne hbD]
        exact (s13.trans (s4.trans s5)) _ _ hb
      · rw [cut_upd_in (show D ∈ D :: O ++ Y from List.mem_cons_self), tk, made_snoc, if_pos hc]
        rw [perm] at hy5
        exact hh5.snoc hy5
    · rw [if_neg hc]
      refine ⟨s13.trans s4, ws, s4 _ _ hws3, ?_⟩
      rw [tk, made_snoc, if_neg hc]
      exact hh.mono (cut_mono (s3.trans s4) _)
  · have e : i = xs.length := by omega
    subst e
    refine .inl ⟨w2 (by omega), q D H2 (s1.trans s2) hDn ?_⟩
    rw [List.take_length] at hh
    exact ⟨D, ws, rfl, List.mem_cons_self, fun z => hDX (List.mem_append_right _ z), hws, hh⟩
theorem en_lc {α : Type} {vs : List Nat} (en : Nat → α → Dt) (xs : List α) (c : α → Bool) (f : α → Dt) (h : EvIR K wi ρ (xs.mapIdx en))
    (ht : ∀ i x, xs[i]? = some x → LcTurn K g tt te vs ρ (en i x) (c x) (f x)) (hz : xs.length < sizeLine) : EvN K (tLc wi g tt te vs) ρ (.lst (made c f xs)) := fun O Y H σ I Q q => lc_at en xs c f I (h O Y H σ I) ht hz q
theorem mapIdx_map {α β : Type} (f : α → β) (xs : List α) : xs.mapIdx (fun _ x => f x) = xs.map f := by
  apply List.ext_getElem?
  intro i
  rw [List.getElem?_mapIdx, List.getElem?_map]
/-- a comprehension over items told one by one -/
theorem en_lcM {α : Type} {vs : List Nat} (en : α → Dt) (xs : List α) (c : α → Bool) (f : α → Dt) (h : EvIR K wi ρ (xs.map en))
    (ht : ∀ x, x ∈ xs → LcTurn K g tt te vs ρ (en x) (c x) (f x)) (hz : xs.length < sizeLine) : EvN K (tLc wi g tt te vs) ρ (.lst (made c f xs)) :=
  en_lc (fun _ x => en x) xs c f (by rw [mapIdx_map]; exact h) (fun i x hx => ht x (List.mem_of_getElem? hx)) hz
theorem made_all {α : Type} (f : α → Dt) (xs : List α) : made (fun _ => true) f xs = xs.map f := by
  unfold made
  rw [List.filter_eq_self.mpr fun _ _ => rfl]
theorem et_yes : EvT K tYes ρ true := fun O Y H σ I Q q => q H (Same.refl H)
end
end DL
namespace DL
open PySem PySem.Spec L2
/-! ### what a def promises -/
section
variable (K : PySem.W.Frag) {A : Type}
/-- data in, data out -/
def spD (args : A → List Dt) (dom : A → Prop) (res : A → Dt) : Sp := fun vs H Q _ => ∃ x Y, (∀ a ∈ Y, H a ≠ none) ∧ HasL K (cut H Y) (args x) vs ∧ dom x ∧
  ∀ v H', Same H H' → Has K (cut H' Y) (res x) v → Q v H'
/-- data in, a new object out -/
def spN (args : A → List Dt) (dom : A → Prop) (res : A → Dt) : Sp := fun vs H Q _ => ∃ x Y, (∀ a ∈ Y, H a ≠ none) ∧ HasL K (cut H Y) (args x) vs ∧ dom x ∧
  ∀ a H', Same H H' → H a = none → OwnAt K [a] Y H' (res x) (.ref a) → Q (.ref a) H'
/-- an own object first, which changes -/
def spP (pot pot' : A → Dt) (args : A → List Dt) (dom : A → Prop) (res : A → Dt) : Sp := fun vs H Q _ => ∃ x a r Y, vs = .ref a :: r ∧ (∀ b ∈ a :: Y, H b ≠ none) ∧ OwnAt K [a] Y H (pot x) (.ref a) ∧
  HasL K (cut H (a :: Y)) (args x) r ∧ dom x ∧ ∀ v H', Same (cut H [a]) (cut H' [a]) → OwnAt K [a] Y H' (pot' x) (.ref a) → Has K (cut H' (a :: Y)) (res x) v → Q v H'
end
section
variable {K : PySem.W.Frag} {A : Type} {ρ ρ' : List Sl} {args : A → List Dt} {dom : A → Prop} {res : A → Dt} {pot pot' : A → Dt} {ta tr : TA} {E : XK} {i : Nat} {p : Option Addr} {d e : Dt}
theorem ev_call (x : A) (h : EvA K ta ρ (args x)) (hd : dom x) : Ev K (tCall (spD K args dom res) [] E ta) ρ (res x) := fun O Y H σ I Q q => h O Y H σ I _ fun vs H1 s1 hv => by
  refine ⟨x, O ++ Y, dom_mono I.dom s1, by rw [List.append_nil]; exact hv, hd, fun v H' s hr => q v H' (s1.trans s) hr⟩
theorem en_call (x : A) (h : EvA K ta ρ (args x)) (hd : dom x) : EvN K (tCall (spN K args dom res) [] E ta) ρ (res x) := fun O Y H σ I Q q => h O Y H σ I _ fun vs H1 s1 hv => by
  refine ⟨x, O ++ Y, dom_mono I.dom s1, by rw [List.append_nil]; exact hv, hd, fun a H' s hn hr => q a H' (s1.trans s) (s1.free hn) ?_⟩
  have hY : a ∉ Y := fun z => new_out (dom_mono I.dom s1) hn (List.mem_append_right _ z)
  have hc : cut H' ([a] ++ (O ++ Y)) = cut H' ((a :: O) ++ Y) := cut_perm fun b => by simp
  cases hd : res x with
  | lst ds => rw [hd] at hr; obtain ⟨b, xs, e1, e2, e3, e4, e5⟩ := hr; cases e1; exact ⟨a, xs, rfl, List.mem_cons_self, hY, e4, by rw [← hc]; exact e5⟩
  | dk ks ds => rw [hd] at hr; obtain ⟨b, xs, e1, e2, e3, e4, ez, e5⟩ := hr; cases e1; exact ⟨a, xs, rfl, List.mem_cons_self, hY, e4, ez, by rw [← hc]; exact e5⟩
  | dt ks ds => rw [hd] at hr; obtain ⟨b, xs, e1, e2, e3, e4, ez, e5⟩ := hr; cases e1; exact ⟨a, xs, rfl, List.mem_cons_self, hY, e4, ez, by rw [← hc]; exact e5⟩
  | on f ds => rw [hd] at hr; obtain ⟨b, xs, e1, e2, e3, ez, e4, e5⟩ := hr; cases e1; exact ⟨a, xs, rfl, List.mem_cons_self, hY, ez, e4, by rw [← hc]; exact e5⟩
  | _ => rw [hd] at hr; exact False.elim hr
/-- a new object from a call, as data -/
theorem ev_callN (x : A) (h : EvA K ta ρ (args x)) (hd : dom x) : Ev K (tCall (spN K args dom res) [] E ta) ρ (res x) := (en_call x h hd).ev
theorem own_in {O O' Y Y' : List Addr} {H : Hp} {a : Addr} (h : OwnAt K O Y H d (.ref a)) (ha : a ∈ O') (hy : a ∉ Y') (hc : ∀ b, b ∈ O' ++ Y' → b ∈ O ++ Y) : OwnAt K O' Y' H d (.ref a) := by
  have sc : Same (cut H (O ++ Y)) (cut H (O' ++ Y')) := cut_more hc
  cases d with
  | lst ds => obtain ⟨b, xs, e1, e2, e3, e4, e5⟩ := h; cases e1; exact ⟨a, xs, rfl, ha, hy, e4, e5.mono sc⟩
  | dk ks ds => obtain ⟨b, xs, e1, e2, e3, e4, ez, e5⟩ := h; cases e1; exact ⟨a, xs, rfl, ha, hy, e4, ez, e5.mono sc⟩
  | dt ks ds => obtain ⟨b, xs, e1, e2, e3, e4, ez, e5⟩ := h; cases e1; exact ⟨a, xs, rfl, ha, hy, e4, ez, e5.mono sc⟩
  | on f ds => obtain ⟨b, xs, e1, e2, e3, ez, e4, e5⟩ := h; cases e1; exact ⟨a, xs, rfl, ha, hy, ez, e4, e5.mono sc⟩
  | _ => exact False.elim h
theorem own_some {O Y : List Addr} {H : Hp} {a : Addr} (h : OwnAt K O Y H d (.ref a)) : H a ≠ none ∧ a ∉ Y ∧ a ∈ O := by
  cases d with
  | lst ds => obtain ⟨b, xs, e1, e2, e3, e4, e5⟩ := h; cases e1; exact ⟨by rw [e4]; exact fun z => (by cases z), e3, e2⟩
  | dk ks ds => obtain ⟨b, xs, e1, e2, e3, e4, ez, e5⟩ := h; cases e1; exact ⟨by rw [e4]; exact fun z => (by cases z), e3, e2⟩
  | dt ks ds => obtain ⟨b, xs, e1, e2, e3, e4, ez, e5⟩ := h; cases e1; exact ⟨by rw [e4]; exact fun z => (by cases z), e3, e2⟩
  | on f ds => obtain ⟨b, xs, e1, e2, e3, ez, e4, e5⟩ := h; cases e1; exact ⟨by rw [e4]; exact fun z => (by cases z), e3, e2⟩
  | _ => exact False.elim h
/-- one own object changed, the heap grown -/
theorem Env.turn {O Y : List Addr} {H H' : Hp} {σ : L2.St} {a : Addr} (I : Env K O Y H ρ σ) (hi : ρ[i]? = some (.own p d)) (hv : σ[i]? = some (some (.ref a))) (s : Same (cut H [a]) (cut H' [a])) (ho : OwnAt K O Y H' e (.ref a)) :
    Env K O Y H' (ρ.set i (.own p e)) σ := by
  have hl : i < ρ.length := (List.getElem?_eq_some_iff.mp hi).1
  obtain ⟨hne, hay, hao⟩ := own_some ho
  have keep : ∀ b o, b ≠ a → H b = some o → H' b = some o := fun b o hb h => (cut_some.mp (s b o (cut_some.mpr ⟨by simp [hb], h⟩))).2
  have sc : Same (cut H (O ++ Y)) (cut H' (O ++ Y)) := fun b o hb => by
    obtain ⟨h1, h2⟩ := cut_some.mp hb
    exact cut_some.mpr ⟨h1, keep b o (fun z => h1 (by rw [z]; exact List.mem_append_left _ hao)) h2⟩
  refine ⟨by rw [List.length_set]; exact I.len, fun j t ht => ?_, fun j k q r d1 e1 w hjk hj hk h1 h2 => ?_, fun b hb => ?_⟩
  · by_cases hij : i = j
    · subst hij
      rw [List.getElem?_set_self hl] at ht
      cases ht
      obtain ⟨v', g1, _, g3⟩ := I.own hi
      have e1 : V.ref a = v' := Option.some.inj (Option.some.inj (hv.symm.trans g1))
      exact ⟨_, hv, _, rfl, ho, fun b hb => by rw [e1]; exact g3 b hb⟩
    · rw [List.getElem?_set_ne hij] at ht
      obtain ⟨o, h1, h2⟩ := I.ok j t ht
      refine ⟨o, h1, ?_⟩
      cases t with
      | un => trivial
      | dat c => obtain ⟨u, g1, g2⟩ := h2; exact ⟨u, g1, g2.mono sc⟩
      | own q c =>
        obtain ⟨u, g1, g2, g3⟩ := h2
        refine ⟨u, g1, g2.keep (fun b ob hb hq => keep b ob (fun z => ?_) hq) sc (fun _ _ z => z), g3⟩
        subst z
        exact I.sep i j p q d c _ hij hi ht hv (by rw [h1, g1, hb])
  · have old : ∀ (m : Nat) (s : Option Addr) (c : Dt), (ρ.set i (.own p e))[m]? = some (.own s c) → ∃ s' c', ρ[m]? = some (.own s' c') := fun m s c hm => by
      by_cases him : i = m
      · subst him; exact ⟨p, d, hi⟩
      · rw [List.getElem?_set_ne him] at hm; exact ⟨s, c, hm⟩
    obtain ⟨s1, c1, g1⟩ := old j q d1 hj
    obtain ⟨s2, c2, g2⟩ := old k r e1 hk
    exact I.sep j k s1 s2 c1 c2 w hjk g1 g2 h1 h2
  · by_cases hba : b = a
    · subst hba; exact hne
    · cases q : H b with
      | none => exact absurd q (I.dom b hb)
      | some o => rw [keep b o hba q]; exact fun z => by cases z
theorem evm_callP (x : A) (hi : ρ[i]? = some (.own p (pot x))) (h : EvA K tr ρ (args x)) (hd : dom x) : EvM K (tCall (spP K pot pot' args dom res) [] E (tCons (tVar i) tr)) ρ (res x) (ρ.set i (.own p (pot' x))) := fun O Y H σ I Q q => by
  obtain ⟨v, hv, ho, _⟩ := I.own hi
  obtain ⟨a, rfl, haO⟩ := ho.ref
  refine ⟨_, hv, h O Y H σ I _ fun vs H1 s1 hvs => ?_⟩
  have I1 := I.mono s1
  have ho1 := ho.mono s1
  obtain ⟨_, hay, _⟩ := own_some ho1
  have hm : ∀ b, b ∈ a :: (O.filter (fun b => decide (b ≠ a)) ++ Y) ↔ b ∈ O ++ Y := fun b => by
    simp only [List.mem_cons, List.mem_append, List.mem_filter, decide_eq_true_eq]
    constructor
    · rintro (z | z | z)
      · subst z; exact .inl haO
      · exact .inl z.1
      · exact .inr z
    · rintro (z | z)
      · by_cases hb : b = a
        · exact .inl hb
        · exact .inr (.inl ⟨z, hb⟩)
      · exact .inr (.inr z)
  have hyc : a ∉ O.filter (fun b => decide (b ≠ a)) ++ Y := fun z => by
    rcases List.mem_append.mp z with z | z
    · exact absurd rfl (of_decide_eq_true (List.mem_filter.mp z).2)
    · exact hay z
  refine ⟨x, a, vs, O.filter (fun b => decide (b ≠ a)) ++ Y, by rw [List.append_nil], fun b hb => I1.dom b ((hm b).mp hb), own_in ho1 (by simp) hyc fun b hb => (hm b).mp hb, ?_, hd, fun w H2 s2 ho2 hw => ?_⟩
  · rw [cut_perm hm]
    exact hvs
  · have ho3 : OwnAt K O Y H2 (pot' x) (.ref a) := own_in ho2 haO hay fun b hb => (hm b).mpr hb
    rw [cut_perm hm] at hw
    refine q w H2 (I1.turn hi hv s2 ho3) ?_ hw
    refine (cut_mono s1 O).trans fun b o hb => ?_
    obtain ⟨h1, h2⟩ := cut_some.mp hb
    have hba : b ≠ a := fun z => h1 (by rw [z]; exact haO)
    exact cut_some.mpr ⟨h1, (cut_some.mp (s2 b o (cut_some.mpr ⟨by simp [hba], h2⟩))).2⟩
end
/-! ### a def from its body's run -/
section
variable {P : Program} {w : World} {K : PySem.W.Frag} {mg : Str → Option Value} {base : Heap} {A : Type} {args : A → List Dt} {dom : A → Prop} {res : A → Dt} {pot pot' : A → Dt}
theorem start_get {N : List Str} {vs : List V} {i : Nat} {v : V} (h : vs[i]? = some v) : (L2.start N vs)[i]? = some (some v) := by
  unfold L2.start
  have hl : i < (vs.map some).length := by
    rw [List.length_map]
    exact (List.getElem?_eq_some_iff.mp h).1
  rw [List.getElem?_append_left hl, List.getElem?_map, h]
  rfl
theorem start_len {N : List Str} {vs : List V} (h : vs.length ≤ N.length) : (L2.start N vs).length = N.length := by
  unfold L2.start
  rw [List.length_append, List.length_map, List.length_replicate]
  omega
theorem env_start {Y : List Addr} {H : Hp} {ds : List Dt} {vs : List V} {N : List Str} {n : Nat} (hY : ∀ a ∈ Y, H a ≠ none) (hv : HasL K (cut H Y) ds vs) (hn : ds.length + n = N.length) : Env K [] Y H (ds.map .dat ++ List.replicate n .un) (L2.start N vs) := by
  have hl := hv.len
  have hdn : ∀ (i : Nat) (p : Option Addr) (d : Dt), (ds.map Sl.dat ++ List.replicate n Sl.un)[i]? ≠ some (.own p d) := fun i p d h => by
    have hm := List.mem_of_getElem? h
    rcases List.mem_append.mp hm with z | z
    · obtain ⟨_, _, z⟩ := List.mem_map.mp z
      cases z
    · have := (List.mem_replicate.mp z).2
      cases this
  refine ⟨?_, fun i s hs => ?_, fun i j p q d e v hij hi hj h1 h2 => hdn i p d hi, fun a ha => hY a ha⟩
  · rw [start_len (by omega), List.length_append, List.length_map, List.length_replicate]
    omega
  · by_cases hi : i < ds.length
    · rw [List.getElem?_append_left (by rw [List.length_map]; exact hi), List.getElem?_map] at hs
      have hd : ds[i]? = some ds[i] := List.getElem?_eq_getElem hi
      rw [hd] at hs
      cases hs
      obtain ⟨v, e1, e2⟩ := hv.get hd
      exact ⟨some v, start_get e1, v, rfl, e2⟩
    · rw [List.getElem?_append_right (by rw [List.length_map]; omega)] at hs
      have hr := (List.mem_replicate.mp (List.mem_of_getElem? hs)).2
      subst hr
      have hlt : i < (L2.start N vs).length := by
        rw [start_len (by omega)]
        have := (List.getElem?_eq_some_iff.mp hs).1
        rw [List.length_replicate, List.length_map] at this
        omega
      exact ⟨_, List.getElem?_eq_getElem hlt, trivial⟩
theorem env_startP {Y : List Addr} {H : Hp} {d0 : Dt} {a : Addr} {ds : List Dt} {vs : List V} {N : List Str} {n : Nat} (hY : ∀ b ∈ a :: Y, H b ≠ none) (ho : OwnAt K [a] Y H d0 (.ref a)) (hv : HasL K (cut H (a :: Y)) ds vs) (hn : ds.length + 1 + n = N.length) :
    Env K [a] Y H (.own (some a) d0 :: (ds.map .dat ++ List.replicate n .un)) (L2.start N (.ref a :: vs)) := by
  have hl := hv.len
  have hdn : ∀ (i : Nat) (p : Option Addr) (d : Dt), (ds.map Sl.dat ++ List.replicate n Sl.un)[i]? ≠ some (.own p d) := fun i p d h => by
    have hm := List.mem_of_getElem? h
    rcases List.mem_append.mp hm with z | z
    · obtain ⟨_, _, z⟩ := List.mem_map.mp z
      cases z
    · have := (List.mem_replicate.mp z).2
      cases this
  refine ⟨?_, fun i s hs => ?_, fun i j p q d e v hij hi hj h1 h2 => ?_, fun b hb => hY b (by simpa using hb)⟩
  · rw [start_len (by rw [List.length_cons]; omega), List.length_cons, List.length_append, List.length_map, List.length_replicate]
    omega
  · cases i with
    | zero =>
      cases hs
      exact ⟨some (.ref a), start_get rfl, _, rfl, ho, fun b z => by cases z; rfl⟩
    | succ i =>
      rw [List.getElem?_cons_succ] at hs
      by_cases hi : i < ds.length
      · rw [List.getElem?_append_left (by rw [List.length_map]; exact hi), List.getElem?_map] at hs
        have hd : ds[i]? = some ds[i] := List.getElem?_eq_getElem hi
        rw [hd] at hs
        cases hs
        obtain ⟨v, e1, e2⟩ := hv.get hd
        exact ⟨some v, start_get (by rw [List.getElem?_cons_succ]; exact e1), v, rfl, e2⟩
      · rw [List.getElem?_append_right (by rw [List.length_map]; omega)] at hs
        have hr := (List.mem_replicate.mp (List.mem_of_getElem? hs)).2
        subst hr
        have hlt : i + 1 < (L2.start N (.ref a :: vs)).length := by
          rw [start_len (by rw [List.length_cons]; omega)]
          have := (List.getElem?_eq_some_iff.mp hs).1
          rw [List.length_replicate, List.length_map] at this
          omega
        exact ⟨_, List.getElem?_eq_getElem hlt, trivial⟩
  · cases i with
    | zero =>
      cases j with
      | zero => exact hij rfl
      | succ j => exact hdn j q e (by simpa using hj)
    | succ i => exact hdn i p d (by simpa using hi)
theorem fn_d {x qual : Str} {st : Stmt} {f : Addr} {fd : FuncData} {N ps : List Str} {k : Nat} (F : Fun K x qual st f fd) (S : FnScope N ps (defScope st)) (hl : ∀ x, (args x).length = ps.length) (t : TS)
    (hb : ∀ (cdv : Value) (A : Around) (outer : List PySem.Env) (s : Shared) (H : Hp) (E : XK), Room k (A.deeper (PyProof.Rows.envOfC qual (defScope st) s.heap.objs.size f cdv)) → PSs (cxOf CX0 P w K mg base N qual (defScope st) f cdv A outer s H E).nox (defBody st) t)
    (hn : ps.length ≤ N.length) (run : ∀ x, dom x → Runs K t ((args x).map .dat ++ List.replicate (N.length - ps.length) .un) { nx := fun _ => res x = .non, rt := fun d _ => d = res x }) : FnOk P w K mg base CX0 (k + 1) f fd ps (spD K args dom res) := by
  refine F.ok S (fun vs H Q E h => ?_) (fun cdv A outer s H vs Q E hr h => ⟨t, hb cdv A outer s H E hr, ?_⟩)
  · obtain ⟨z, Y, _, h1, _⟩ := h
    rw [h1.len, hl]
  · obtain ⟨z, Y, hY, h1, hd, q⟩ := h
    refine run z hd Y H _ H _ ⟨[], env_start hY h1 (by rw [hl]; omega), by rw [cut_nil]; exact Same.refl _⟩ ⟨fun ρ σ H' hx ⟨O, I, g⟩ => ?_, fun d ρ σ v H' hx ⟨O, I, g, hv⟩ => ?_, fun ρ σ H' hx => False.elim hx, fun ρ σ H' hx => False.elim hx⟩
    · have hx : res z = .non := hx
      exact q .non H' (g.trans (cut_le _ _)) (by rw [hx]; rfl)
    · have hx : d = res z := hx
      subst hx
      exact q v H' (g.trans (cut_le _ _)) (hv.mono (cut_more fun b hb => List.mem_append_right _ hb))
theorem fn_p {x qual : Str} {st : Stmt} {f : Addr} {fd : FuncData} {N : List Str} {p0 : Str} {ps : List Str} {k : Nat} (F : Fun K x qual st f fd) (S : FnScope N (p0 :: ps) (defScope st)) (hl : ∀ x, (args x).length = ps.length) (t : TS)
    (hb : ∀ (cdv : Value) (A : Around) (outer : List PySem.Env) (s : Shared) (H : Hp) (E : XK), Room k (A.deeper (PyProof.Rows.envOfC qual (defScope st) s.heap.objs.size f cdv)) → PSs (cxOf CX0 P w K mg base N qual (defScope st) f cdv A outer s H E).nox (defBody st) t)
    (hn : (p0 :: ps).length ≤ N.length) (run : ∀ x a, dom x → Runs K t (.own (some a) (pot x) :: ((args x).map .dat ++ List.replicate (N.length - (p0 :: ps).length) .un))
      { nx := fun ρ' => res x = .non ∧ ρ'[0]? = some (.own (some a) (pot' x)), rt := fun d ρ' => d = res x ∧ ρ'[0]? = some (.own (some a) (pot' x)) }) : FnOk P w K mg base CX0 (k + 1) f fd (p0 :: ps) (spP K pot pot' args dom res) := by
  refine F.ok S (fun vs H Q E h => ?_) (fun cdv A outer s H vs Q E hr h => ⟨t, hb cdv A outer s H E hr, ?_⟩)
  · obtain ⟨z, a, r, Y, e0, _, _, h1, _⟩ := h
    rw [e0, List.length_cons, h1.len, hl, List.length_cons]
  · obtain ⟨z, a, r, Y, rfl, hY, ho, h1, hd, q⟩ := h
    have hn' : ps.length + 1 ≤ N.length := hn
    have fin : ∀ (O : List Addr) (ρ : List Sl) (σ : L2.St) (H' : Hp), ρ[0]? = some (.own (some a) (pot' z)) → Env K O Y H' ρ σ → Same (cut H [a]) (cut H' O) → Same (cut H [a]) (cut H' [a]) ∧ OwnAt K [a] Y H' (pot' z) (.ref a) ∧ Same (cut H' (O ++ Y)) (cut H' (a :: Y)) := fun O ρ σ H' h0 I g => by
      obtain ⟨v, g1, g2, g3⟩ := I.own h0
      have ev := g3 a rfl
      subst ev
      obtain ⟨_, hay, hao⟩ := own_some g2
      have sub : ∀ b, b ∈ [a] ++ Y → b ∈ O ++ Y := fun b hb => by
        rcases List.mem_append.mp hb with z | z
        · rw [List.mem_singleton.mp z]; exact List.mem_append_left _ hao
        · exact List.mem_append_right _ z
      refine ⟨fun b o hb => ?_, own_in g2 (by simp) hay sub, cut_more sub⟩
      obtain ⟨k1, _⟩ := cut_some.mp hb
      exact cut_some.mpr ⟨k1, (cut_some.mp (g b o hb)).2⟩
    refine run z a hd Y (cut H [a]) _ H _ ⟨[a], env_startP hY ho h1 (by rw [hl, List.length_cons]; omega), Same.refl _⟩ ⟨fun ρ σ H' hx ⟨O, I, g⟩ => ?_, fun d ρ σ v H' hx ⟨O, I, g, hv⟩ => ?_, fun ρ σ H' hx => False.elim hx, fun ρ σ H' hx => False.elim hx⟩
    · obtain ⟨hx, h0⟩ := hx
      obtain ⟨f1, f2, f3⟩ := fin O ρ σ H' h0 I g
      exact q .non H' f1 f2 (by rw [hx]; rfl)
    · obtain ⟨hx, h0⟩ := hx
      subst hx
      obtain ⟨f1, f2, f3⟩ := fin O ρ σ H' h0 I g
      exact q v H' f1 f2 (hv.mono f3)
/-- a def as its callers see it -/
structure Def (P : Program) (w : World) (K : PySem.W.Frag) (mg : Str → Option Value) (base : Heap) (x : Str) (ps : List Str) (k : Nat) (sp : Sp) : Prop where
  ex : ∃ (f : Addr) (fd : FuncData), mg x = some (.ref f) ∧ PySem.W.keepIn K (.ref f) = true ∧ Binds K fd ps [] ∧ FnOk P w K mg base CX0 k f fd ps sp
theorem pe_callD {X : Cx} {x : Str} {ps : List Str} {k j : Nat} {sp : Sp} {p pos : Pos} {e : Expr} {es : List Expr} {t : TA} (D : Def X.prog X.w X.K X.mg X.base x ps k sp) (hr : Room j X.A) (hk : k ≤ j) (hg : Gl X x) (ha : PA X (e :: es) t)
    (hdb : (x == ("__debug__" : Str)) = false := by decide) (he : starEach (e :: es) X.env = (false, eval e X.env) :: starEach es X.env := by rfl) (hpl : (backTo pos (starEach es X.env)).any (·.1) = false := by rfl) :
    PE X (.Call (.Name x p) (e :: es) [] pos) (tCall sp [] E0 t) := by
  refine ⟨fun pins s σ H Q I h => ?_⟩
  obtain ⟨f, fd, h1, h2, h3, h4⟩ := D.ex
  exact (pe_call h4 (hr.mono hk) hg h1 h2 h3 .nil pass0 ha hdb he hpl).run pins s σ H Q I h
theorem pe_callD0 {X : Cx} {x : Str} {ps : List Str} {k j : Nat} {sp : Sp} {p pos : Pos} (D : Def X.prog X.w X.K X.mg X.base x ps k sp) (hr : Room j X.A) (hk : k ≤ j) (hg : Gl X x) (hdb : (x == ("__debug__" : Str)) = false := by decide) :
    PE X (.Call (.Name x p) [] [] pos) (tCall sp [] E0 tNil) := by
  refine ⟨fun pins s σ H Q I h => ?_⟩
  obtain ⟨f, fd, h1, h2, h3, h4⟩ := D.ex
  exact (pe_call0 h4 (hr.mono hk) hg h1 h2 h3 .nil pass0 hdb).run pins s σ H Q I h
end
end DL
namespace DL
open PySem PySem.Spec L2
section
variable {X : Cx}
/-! ### one of several rules -/
theorem OpR.or2 {f : Value → Value → Sem Value} {r r' : R2} (h : OpR X f r) (h' : OpR X f r') : OpR X f (fun x y H Q => r x y H Q ∨ r' x y H Q) := fun pn st sl hp x y v u Q inv rx ry q => by
  rcases q with q | q
  · exact h pn st sl hp x y v u Q inv rx ry q
  · exact h' pn st sl hp x y v u Q inv rx ry q
theorem CallR.or2 {f : Value} {r r' : List V → Hp → VK → Prop} (h : CallR X f r) (h' : CallR X f r') : CallR X f (fun xs H Q => r xs H Q ∨ r' xs H Q) := fun pn st sl hp xs us Q inv rx q => by
  rcases q with q | q
  · exact h pn st sl hp xs us Q inv rx q
  · exact h' pn st sl hp xs us Q inv rx q
def tEither (t u : TE) : TE := fun σ H Q => t σ H Q ∨ u σ H Q
theorem pe_or2 {e : Expr} {t u : TE} (h : PE X e t) (h' : PE X e u) : PE X e (tEither t u) := ⟨fun pn st sl hp Q inv q => by
  rcases q with q | q
  · exact h.run pn st sl hp Q inv q
  · exact h'.run pn st sl hp Q inv q⟩
def iEither (t u : TI) : TI := fun σ H R => t σ H R ∨ u σ H R
theorem pi_or2 {tg e : Expr} {t u : TI} (h : PI X tg e t) (h' : PI X tg e u) : PI X tg e (iEither t u) := ⟨fun pn st sl hp R inv q => by
  rcases q with q | q
  · exact h.run pn st sl hp R inv q
  · exact h'.run pn st sl hp R inv q⟩
def iSeq (K : PySem.W.Frag) (t : TE) : TI := iEither (iList K t) (iTup K t)
theorem pi_seq {tg e : Expr} {t : TE} (h : PE X e t) : PI X tg e (iSeq X.K t) := pi_or2 (pi_list h) (pi_tup h)
/-! ### lists that are read, joined -/
theorem rd_lst {pins : List (Addr × Obj)} {σ : L2.St} {H : Hp} {s : Shared} {l : Addr} {xs : List V} (I : Inv X pins σ H s) (h : Rd H l (.lst xs)) :
    xs.length ≤ sizeLine ∧ ∃ (its : List Value) (n : Nat), Vals xs its ∧ xs.length = its.length ∧ s.heap.get? l = some { cls := .type "list", data := .seq its.toArray n } := by
  obtain ⟨z, its, n, r, e⟩ := h.ok I.hok
  exact ⟨z, its, n, r, r.length, e⟩
def rCatR : R2 := fun x y H Q => ∃ l b xs zs, x = .ref l ∧ y = .ref b ∧ Rd H l (.lst xs) ∧ Rd H b (.lst zs) ∧ xs.length + zs.length ≤ sizeLine ∧ ∀ p, H p = none → Q (.ref p) (upd H p (.lst (xs ++ zs)))
theorem op_catR : OpR X (binaryOp .Add) rCatR := fun pn st sl hp x y v u Q inv rx ry q => by
  obtain ⟨l, b, xs, zs, rfl, rfl, hl, hb, hz, q⟩ := q
  cases rx
  cases ry
  obtain ⟨_, i1, n1, r1, l1, e1⟩ := rd_lst inv hl
  obtain ⟨_, i2, n2, r2, l2, e2⟩ := rd_lst inv hb
  refine PySem.P.add_list e1 e2 ?_ (by rw [List.size_toArray, List.size_toArray, ← l1, ← l2]; exact hz)
  rw [show i1.toArray ++ i2.toArray = (i1 ++ i2).toArray by simp]
  have hn : hp st.heap.objs.size = none := inv.hok.fresh (Nat.le_refl _)
  refine ⟨.ref st.heap.objs.size, upd hp st.heap.objs.size (.lst (xs ++ zs)), inv.laid (t' := st.toks) (fun b u e => Heap.get?_push_of_some _ e) (Nat.le_refl _) ?_, rfl, q _ hn⟩
  exact ⟨by rw [List.length_append]; exact hz, i1 ++ i2, 0, r1.append r2, Heap.get?_push_size _ rfl⟩
def rAddA (K : PySem.W.Frag) : R2 := fun x y H Q => rI0 (fun i j => .int (i + j)) x y H Q ∨ rCatA K x y H Q ∨ rCatR x y H Q ∨ ∃ i j, x = .str i ∧ y = .str j ∧ i.length + j.length ≤ sizeLine ∧ Q (.str (i ++ j)) H
theorem op_addA : OpR X (binaryOp .Add) (rAddA X.K) := OpR.or2 op_add (OpR.or2 op_catA (OpR.or2 op_catR op_add_str))
def rEqA (K : PySem.W.Frag) : R2 := fun x y H Q => rEq x y H Q ∨ rEqD K x y H Q
theorem op_eqA (hu : X.A.units + 65 < cLine) : OpR X (compareOp .Eq) (rEqA X.K) := OpR.or2 op_eq (op_eqD (by omega))
def rNeA (K : PySem.W.Frag) : R2 := fun x y H Q => rNe x y H Q ∨ rNeD K x y H Q
theorem op_neA (hu : X.A.units + 65 < cLine) : OpR X (compareOp .NotEq) (rNeA X.K) := OpR.or2 op_ne (op_neD (by omega))
/-- in a dict -/
def rDIn : R2 := fun y x H Q => ∃ a o, x = .ref a ∧ DGet H a y o ∧ Q (.bl o.isSome) H
def rDNotIn : R2 := fun y x H Q => ∃ a o, x = .ref a ∧ DGet H a y o ∧ Q (.bl (!o.isSome)) H
theorem op_din (hu : X.A.units + 1 < cLine) : OpR X (compareOp .In) rDIn := fun pn st sl hp x y v u Q inv rx ry q => by
  obtain ⟨a, o, rfl, g, q⟩ := q
  cases ry
  exact d_in hu inv g rx fun s' J => ⟨.bl o.isSome, hp, J, rfl, q⟩
theorem op_dnotin (hu : X.A.units + 1 < cLine) : OpR X (compareOp .NotIn) rDNotIn := fun pn st sl hp x y v u Q inv rx ry q => by
  obtain ⟨a, o, rfl, g, q⟩ := q
  cases ry
  exact d_notIn hu inv g rx fun s' J => ⟨.bl (!o.isSome), hp, J, rfl, q⟩
def rInA (K : PySem.W.Frag) : R2 := fun x y H Q => rIn K false x y H Q ∨ rInD K x y H Q ∨ rDIn x y H Q
theorem op_inA (hu : X.A.units + 65 < cLine) : OpR X (compareOp .In) (rInA X.K) := OpR.or2 op_in_seq (OpR.or2 (op_inD hu) (op_din (by omega)))
def rNotInA (K : PySem.W.Frag) : R2 := fun x y H Q => rIn K true x y H Q ∨ rNotInD K x y H Q ∨ rDNotIn x y H Q
theorem op_notinA (hu : X.A.units + 65 < cLine) : OpR X (compareOp .NotIn) (rNotInA X.K) := OpR.or2 op_notIn_seq (OpR.or2 (op_notInD hu) (op_dnotin (by omega)))
def rSlX (K : PySem.W.Frag) : V → Option Int → Option Int → Hp → VK → Prop := fun x lo hi H Q => rSlA K x lo hi H Q ∨ rSlL K x lo hi H Q
theorem sl_any : SlR X (rSlX X.K) := SlR.or sl_tupA sl_list
theorem hu65 {A : Around} {k : Nat} (hr : Room k A) : A.units + 65 < cLine := by
  have := hr.un
  omega
end
end DL
namespace DL
open PySem PySem.Spec L2
open AutoSeq1 (wpAny_loadPart')
/-! ### enumerate(t), t a tuple -/
theorem enum_new_tup (l : Addr) (items : Array Value) (n : Nat) (dct : Option Addr) (sl : Array (Option Value)) :
    Meets (Builtin.«enumerate.__new__» ⟨[.type "enumerate", .ref l], []⟩) (fun _ R st => st.heap.get? l = some { cls := .type "tuple", dict := dct, data := .seq items n, slots := sl } ∧
      R (.ok (.ret (.ref (st.heap.push { cls := .type "tuple_iterator", data := .fields #[.ref l, .int 0 0] }).objs.size)))
        { st with heap := (st.heap.push { cls := .type "tuple_iterator", data := .fields #[.ref l, .int 0 0] }).push { cls := .type "enumerate", data := .fields #[.none, .bool false, .ref st.heap.objs.size, rawInt 0, .none, .none] } }) :=
  .of_wp fun prog w A R st hyp => by
    obtain ⟨hp, g, d, tk, os⟩ := st
    obtain ⟨hl, hyp⟩ := hyp
    have hsub := sub_enumerate
    have hT : Heap.IsTuple (Shared.heap ⟨hp, g, d, tk, os⟩) l items := ⟨_, hl, rfl, n, rfl⟩
    wp_walk using wpAny_loadPart' hl
    refine wpAny_stack_any fun _ => wpAny_pure ?_
    split
    · rename_i c _ _ _ _ _
      cases (c == Value.type "enumerate")
      · wp_walk using wpAny_loadPart' hl, wpAny_pyIter_tuple hT
        exact ⟨_, rfl, hyp⟩
      · wp_walk using wpAny_loadPart' hl, wpAny_pyIter_tuple hT
        exact ⟨_, rfl, hyp⟩
    · wp_walk using wpAny_loadPart' hl, wpAny_pyIter_tuple hT
      exact ⟨_, rfl, hyp⟩
theorem call_enum_tup {prog : Program} {w : World} {A : Around} {E : Value → Shared → Prop} {st : Shared} {l : Addr} {items : Array Value} {Q : Value → Shared → Prop} (hT : st.heap.IsTuple l items)
    (hyp : ∀ h', IsEnum h' (st.heap.objs.size + 1) st.heap.objs.size 0 .none → h'.IsTupleIter st.heap.objs.size l 0 → h'.objs.size = st.heap.objs.size + 2 →
      (∀ b o, st.heap.get? b = some o → h'.get? b = some o) → Q (.ref (st.heap.objs.size + 1)) { st with heap := h' }) :
    wpAny (model prog w) A (call (.type "enumerate") [.ref l]) Q E st := by
  obtain ⟨⟨c, dct, dt, sl⟩, hl, hc, n, hd⟩ := hT
  have hc : c = .type "tuple" := hc
  have hd : dt = .seq items n := hd
  subst hc
  subst hd
  refine callType_new F.called_enumerate (by decide) (F.typeCall_enumerate_1 _) (F.newCall_enumerate_1 _) (fun obj => F.args_object_init_2 obj _) F.entry_enumerate_new (enum_new_tup l items n dct sl) ⟨hl, ?_⟩
  have hz : (st.heap.push { cls := .type "tuple_iterator", data := .fields #[.ref l, .int 0 0] }).objs.size = st.heap.objs.size + 1 := Heap.size_push ..
  show _ ∧ _
  rw [hz]
  have he : IsEnum ((st.heap.push { cls := .type "tuple_iterator", data := .fields #[.ref l, .int 0 0] }).push { cls := .type "enumerate", data := .fields #[.none, .bool false, .ref st.heap.objs.size, rawInt 0, .none, .none] }) (st.heap.objs.size + 1) st.heap.objs.size 0 .none := by
    have q := Heap.get?_push_size (st.heap.push { cls := .type "tuple_iterator", data := .fields #[.ref l, .int 0 0] }) (o := { cls := .type "enumerate", data := .fields #[.none, .bool false, .ref st.heap.objs.size, rawInt 0, .none, .none] }) rfl
    rw [hz] at q
    exact q
  exact ⟨⟨_, he, rfl⟩, hyp _ he ⟨_, Heap.get?_push_of_some _ (Heap.get?_push_size _ rfl), rfl, rfl⟩ (by rw [Heap.size_push, hz]) fun b o q => Heap.get?_push_of_some _ (Heap.get?_push_of_some _ q)⟩
/-- the tuple at a as it stands at each turn, each item in a new pair -/
def IteT (K : PySem.W.Frag) (a : Addr) : It :=
  ⟨fun i H => ∃ (xs : List V) (x : V), H a = some (.tup xs) ∧ xs[i]? = some x, fun i H v H' => ∃ T x, v = .ref T ∧ H T = none ∧ H' = upd H T (.tup [.int (i : Nat), x]) ∧ ∀ xs, H a = some (.tup xs) → xs[i]? = some x,
    fun i H => ∃ xs : List V, H a = some (.tup xs) ∧ xs.length ≤ i⟩
theorem turn_enumT {P : Program} {w : World} {K : PySem.W.Frag} {elts : List Expr} {kk : Nat} {tpos : Pos} (a e it : Addr) (hai : a ≠ it) (hae : a ≠ e) :
    Turn P w K (.Tuple elts kk tpos) (IteT K a) [e, it] e (fun i h => (∃ old, IsEnum h e it ((i : Nat) : Int) old) ∧ h.IsTupleIter it a i ∧ e ≠ it) where
  mem := List.mem_cons_self
  obj := fun i h st b hb => by
    obtain ⟨⟨old, he⟩, ⟨o, ho, hc, hd⟩, _⟩ := st
    rcases List.mem_cons.mp hb with z | z
    · subst z
      exact ⟨_, he, fun v q => nomatch q⟩
    · rw [List.mem_singleton.mp z]
      exact ⟨o, ho, fun v q => by rw [hd] at q; cases q⟩
  keep := fun i h h' st k => let ⟨⟨old, he⟩, hi, hne⟩ := st; ⟨⟨old, k e List.mem_cons_self _ he⟩, hi.at fun o q => k it (by simp) o q, hne⟩
  item := by
    intro X hP hw hK hc i pn st σ H E inv hf tn hg
    subst hP
    subst hw
    subst hK
    obtain ⟨⟨old, he⟩, hit, hne⟩ := tn
    obtain ⟨xs, x, hq, hx⟩ := hg
    obtain ⟨hz, its, rv, pt⟩ := inv.hok a _ hq
    have hlt : i < its.toArray.size := by
      rw [List.size_toArray, ← rv.length]
      exact (List.getElem?_eq_some_iff.mp hx).1
    have hel : e < st.heap.objs.size := Heap.lt_size he
    have hil : it < st.heap.objs.size := by
      obtain ⟨_, q, _⟩ := hit
      exact Heap.lt_size q
    have hd := inv.ok.hd hc
    refine wpAny_pyNext_enum_itemD (D := Draws.tuple (A := X.A.in1) hd it a hai its.toArray) he ⟨hit, pt⟩ hlt hne (by simp only [List.mem_cons, List.not_mem_nil, or_false, not_or]; exact ⟨hne, fun z => hae z.symm⟩) fun u h' tk hu ho hst hT hsz hk => ?_
    refine ⟨_, rfl, wpAny_letOwnedTupleGo_enum (s := { st with heap := h', toks := tk + 1 }) ho fun h'' he' sb => ?_⟩
    obtain ⟨u', hu', ru⟩ := rv.get hx
    have eu : u' = u := by
      rw [List.getElem?_toArray, hu'] at hu
      exact Option.some.inj hu
    subst eu
    have hT2 : h''.get? st.heap.objs.size = some { cls := .type "tuple", data := .seq #[.int i tk, u'] } := (sb.2 _ (Nat.ne_of_gt hel)).trans hT
    have new : ObjOk X.prog X.w (upd H st.heap.objs.size (.tup [.int (i : Nat), x])) h'' st.heap.objs.size (.tup [.int (i : Nat), x]) :=
      ⟨by show 2 ≤ sizeLine; decide, [.int i tk, u'], .cons ⟨_, rfl⟩ (.cons ru .nil), ⟨_, hT2, rfl, _, rfl⟩⟩
    have J : Inv X pn σ (upd H st.heap.objs.size (.tup [.int (i : Nat), x])) { st with heap := h'', toks := tk + 1 } :=
      inv.turnedNew (ch := [e, it]) (fun b ob hb q => (sb.2 b (fun z => hb (by simp [z]))).trans (hk b ob (fun z => hb (by simp [z])) (fun z => hb (by simp [z])) q)) hf (Nat.le_refl _) new
    refine ⟨.ref st.heap.objs.size, _, J, rfl, ⟨_, x, rfl, inv.hok.fresh (Nat.le_refl _), rfl, fun ys hy => ?_⟩, ⟨⟨u', ?_⟩, hst.1.at fun o q => (sb.2 it (Ne.symm hne)).trans q, hne⟩, fun b hb => ?_⟩
    · rw [hq] at hy
      cases hy
      exact hx
    · rw [show ((i + 1 : Nat) : Int) = (i : Int) + 1 by omega]
      exact he'
    · have hb' : b < st.heap.objs.size := by
        rcases List.mem_cons.mp hb with z | z
        · rw [z]; exact hel
        · rw [List.mem_singleton.mp z]; exact hil
      rw [upd_ne (Nat.ne_of_lt hb')]
      exact (hf b hb).1
  done := by
    intro X hP hw hK hc i pn st σ H E inv hf tn hg
    subst hP
    subst hw
    subst hK
    obtain ⟨⟨old, he⟩, hit, hne⟩ := tn
    obtain ⟨xs, hq, hx⟩ := hg
    obtain ⟨hz, its, rv, pt⟩ := inv.hok a _ hq
    have hd := inv.ok.hd hc
    obtain ⟨f0, f1, f2, f3, f4, f5⟩ := hf it (by simp)
    -- the end is told where the count is the length
    have key : ∀ (h : its.toArray.size ≤ i), wpAny (model X.prog X.w) X.A (pyNext (.ref e)) (fun r s1 => r = none ∧ Inv X pn σ H s1) E st := fun h => by
      have D0 := Draws.tuple (prog := X.prog) (w := X.w) (A := X.A.in1) hd it a hai its.toArray
      have D1 : Draws X.prog X.w X.A.in1 it [it, a] i (fun j v => its.toArray[j]? = some v) (fun j h => j = i ∧ h.IsTupleIter it a j ∧ h.IsTuple a its.toArray) :=
        { live := fun j h s => let ⟨_, ⟨o, ho, _⟩, _⟩ := s; ⟨o, ho⟩
          frame := fun j h h' s hk => ⟨s.1, s.2.1.at fun o q => hk it (by simp) o q, s.2.2.at fun o q => hk a (by simp) o q⟩
          item := fun j s Q E' hj s' hQ => absurd s'.1 (by omega)
          done := fun s Q E' s' hE => wpAny_nextOf_tuple_end hd s'.2.1 s'.2.2 (by rw [List.getElem?_toArray]; exact List.getElem?_eq_none (by rw [List.size_toArray] at h; exact h)) hE }
      exact wpAny_pyNext_enum_endD D1 he ⟨rfl, hit, pt⟩ fun h' eb => ⟨rfl, inv.turned (t' := st.toks) (fun b o hb q => eb b o hb q) f0 f1 f3 f4 f5⟩
    exact key (by rw [List.size_toArray, ← rv.length]; exact hx)
  self := fun A i st Q E tn hyp => let ⟨⟨_, he⟩, _⟩ := tn; wpAny_pyIter_enum he hyp
def iEnumT (K : PySem.W.Frag) (ta : TA) : TI := fun σ H R => ta σ H fun vs H1 => ∃ a xs, vs = [.ref a] ∧ H1 a = some (.tup xs) ∧ R (IteT K a) H1
theorem pi_enumT {X : Cx} {e : Expr} {ta : TA} {p pos tpos : Pos} {elts : List Expr} {kk : Nat} (hg : Gl X "enumerate") (hm : X.mg "enumerate" = none) (ha : PA X [e] ta) (hs : starEach [e] X.env = [(false, eval e X.env)] := by rfl) :
    PI X (.Tuple elts kk tpos) (.Call (.Name "enumerate" p) [e] [] pos) (iEnumT X.K ta) := by
  refine ⟨fun pn st σ H R inv hyp => ?_⟩
  refine PyProof.Rows.Call_ (ld_blt inv hg hm PyProof.Rows.boot_enumerate (PyProof.Rows.callWith_type1 (thn (ha.run pos pn st σ H _ inv hyp) fun us s1 ⟨vs, H1, I1, r1, q1⟩ => ?_) hs rfl))
  obtain ⟨a, xs, ex, hq, q⟩ := q1
  subst ex
  cases r1 with
  | cons r rr =>
    cases rr
    cases r
    obtain ⟨hz, its, rv, pt⟩ := I1.hok a _ hq
    have hal : a < s1.heap.objs.size := I1.hok.lt hq
    refine call_enum_tup (show s1.heap.IsTuple a its.toArray from pt) fun h' he hit hsz hk => wpAny_pyIter_enum he ?_
    have I2 : Inv X pn σ H1 { s1 with heap := h' } := I1.kept (t' := s1.toks) hk
    refine ⟨s1.heap.objs.size + 1, [s1.heap.objs.size + 1, s1.heap.objs.size], _, _, H1, rfl, I2, turn_enumT a (s1.heap.objs.size + 1) s1.heap.objs.size (Nat.ne_of_lt hal) (Nat.ne_of_lt (Nat.lt_succ_of_lt hal)), ⟨⟨.none, he⟩, hit, Nat.succ_ne_self _⟩, fun b hb => ?_, q⟩
    have hle : s1.heap.objs.size ≤ b := by
      rcases List.mem_cons.mp hb with z | z
      · rw [z]; exact Nat.le_add_right _ _
      · rw [List.mem_singleton.mp z]; exact Nat.le_refl _
    exact I1.fpOk hle (I1.hok.fresh hle)
def iEnumA (K : PySem.W.Frag) (ta : TA) : TI := iEither (iEnum K ta) (iEnumT K ta)
theorem pi_enumA {X : Cx} {e : Expr} {ta : TA} {p pos tpos : Pos} {elts : List Expr} {kk : Nat} (hg : Gl X "enumerate") (hm : X.mg "enumerate" = none) (ha : PA X [e] ta) (hs : starEach [e] X.env = [(false, eval e X.env)] := by rfl) :
    PI X (.Tuple elts kk tpos) (.Call (.Name "enumerate" p) [e] [] pos) (iEnumA X.K ta) := pi_or2 (pi_enum hg hm ha hs) (pi_enumT hg hm ha hs)
end DL
namespace DL
open PySem PySem.Spec L2
/-! ### data compared -/
mutual
def pd : Dt → PyData
  | .non => .none
  | .bl b => .bool b
  | .int i => .int i
  | .str s => .str s
  | .tup ds => .tuple (pds ds)
  | .lst ds => .list (pds ds)
  | .dk _ _ => .none
  | .dt _ _ => .none
  | .kt ds => .tuple (pds ds)
  | .kl _ => .none
  | .val _ => .none
  | .ins _ _ _ => .none
  | .on _ _ => .none
def pds : List Dt → List PyData
  | [] => []
  | d :: ds => pd d :: pds ds
end
/-! data of at most so many layers, without dicts -/
mutual
def lay : Nat → Dt → Bool
  | _, .non => true
  | _, .bl _ => true
  | _, .int _ => true
  | _, .str s => PyData.strOk s
  | 0, .tup _ => false
  | n + 1, .tup ds => lays n ds
  | 0, .lst _ => false
  | n + 1, .lst ds => lays n ds
  | _, .dk _ _ => false
  | _, .dt _ _ => false
  | 0, .kt _ => false
  | _, .kl _ => false
  | _, .val _ => false
  | n + 1, .kt ds => lays n ds
  | _, .ins _ _ _ => false
  | _, .on _ _ => false
def lays : Nat → List Dt → Bool
  | _, [] => true
  | n, d :: ds => lay n d && lays n ds
end
section
variable {K : PySem.W.Frag} {H : Hp}
mutual
theorem Has.dp : ∀ {n : Nat} {d : Dt} {v : V}, lay n d = true → Has K H d v → Dp K H v (pd d)
  | _, .non, _, _, h => by cases (show _ = V.non from h); exact .non
  | _, .bl b, _, _, h => by cases (show _ = V.bl b from h); exact .bl b
  | _, .int b, _, _, h => by cases (show _ = V.int b from h); exact .int b
  | _, .str b, _, _, h => by cases (show _ = V.str b from h); exact .str b
  | 0, .tup _, _, e, _ => by simp [lay] at e
  | n + 1, .tup ds, _, e, ⟨a, xs, h1, h2, h3⟩ => by
    subst h1
    exact .tup (SqT.of h2) (HasL.dp (n := n) (by simpa [lay] using e) h3)
  | 0, .lst _, _, e, _ => by simp [lay] at e
  | n + 1, .lst ds, _, e, ⟨a, xs, h1, h2, h3⟩ => by
    subst h1
    exact .lst (.inl h2) (HasL.dp (n := n) (by simpa [lay] using e) h3)
  | _, .dk _ _, _, e, _ => by simp [lay] at e
  | _, .dt _ _, _, e, _ => by simp [lay] at e
  | 0, .kt _, _, e, _ => by simp [lay] at e
  | _, .kl _, _, e, _ => by simp [lay] at e
  | _, .val _, _, e, _ => by simp [lay] at e
  | n + 1, .kt ds, _, e, ⟨a, xs, h1, h2, h3⟩ => by
    subst h1
    exact .tup (.inr h2) (HasL.dp (n := n) (by simpa [lay] using e) h3)
  | _, .ins _ _ _, _, e, _ => by simp [lay] at e
  | _, .on _ _, _, e, _ => by simp [lay] at e
theorem HasL.dp : ∀ {n : Nat} {ds : List Dt} {vs : List V}, lays n ds = true → HasL K H ds vs → DpAll K H vs (pds ds)
  | _, [], _, _, h => by cases (show _ = [] from h); exact .nil
  | n, d :: ds, _, e, ⟨v, r, h1, h2, h3⟩ => by
    subst h1
    rw [lays, Bool.and_eq_true] at e
    exact .cons (Has.dp (n := n) e.1 h2) (HasL.dp (n := n) e.2 h3)
end
end
mutual
theorem pd_lay : ∀ {n : Nat} {d : Dt}, lay n d = true → (pd d).canLay0 = true ∧ (pd d).depth ≤ n + 1
  | _, .non, _ => by simp [pd, PyData.canLay0, PyData.depth]
  | _, .bl _, _ => by simp [pd, PyData.canLay0, PyData.depth]
  | _, .int _, _ => by simp [pd, PyData.canLay0, PyData.depth]
  | _, .str s, e => by
    have e : PyData.strOk s = true := by simpa [lay] using e
    simp [pd, PyData.canLay0, PyData.depth, e]
  | 0, .tup _, e => by simp [lay] at e
  | n + 1, .tup ds, e => by
    have h := pds_lay (n := n) (ds := ds) (by simpa [lay] using e)
    simp only [pd, PyData.canLay0, PyData.depth]
    exact ⟨h.1, by omega⟩
  | 0, .lst _, e => by simp [lay] at e
  | n + 1, .lst ds, e => by
    have h := pds_lay (n := n) (ds := ds) (by simpa [lay] using e)
    simp only [pd, PyData.canLay0, PyData.depth]
    exact ⟨h.1, by omega⟩
  | _, .dk _ _, e => by simp [lay] at e
  | _, .dt _ _, e => by simp [lay] at e
  | 0, .kt _, e => by simp [lay] at e
  | _, .kl _, e => by simp [lay] at e
  | _, .val _, e => by simp [lay] at e
  | n + 1, .kt ds, e => by
    have h := pds_lay (n := n) (ds := ds) (by simpa [lay] using e)
    simp only [pd, PyData.canLay0, PyData.depth]
    exact ⟨h.1, by omega⟩
  | _, .ins _ _ _, e => by simp [lay] at e
  | _, .on _ _, e => by simp [lay] at e
theorem pds_lay : ∀ {n : Nat} {ds : List Dt}, lays n ds = true → PyData.canLayAll0 (pds ds) = true ∧ PyData.depthAll (pds ds) ≤ n + 1
  | _, [], _ => by simp [pds, PyData.canLayAll0, PyData.depthAll]
  | n, d :: ds, e => by
    rw [lays, Bool.and_eq_true] at e
    have h1 := pd_lay (n := n) e.1
    have h2 := pds_lay (n := n) e.2
    simp only [pds, PyData.canLayAll0, PyData.depthAll, h1.1, h2.1, Bool.and_self, true_and]
    omega
end
theorem lay_shaped {n : Nat} {d : Dt} (hn : n ≤ 60) (h : lay n d = true) : SeqAt.shaped (pd d) = true := by
  have q := pd_lay h
  show ((pd d).canLay0 && decide ((pd d).depth ≤ 64)) = true
  rw [q.1, Bool.true_and]
  exact decide_eq_true (by omega)
theorem lays_all {n : Nat} : ∀ {ds : List Dt}, (∀ d ∈ ds, lay n d = true) → lays n ds = true
  | [], _ => by simp [lays]
  | d :: ds, h => by
    rw [lays, h d List.mem_cons_self, lays_all fun x hx => h x (List.mem_cons_of_mem _ hx)]
    rfl
/-- == of data -/
def deq (d e : Dt) : Bool := PyData.eqv (pd d) (pd e)
section
variable {K : PySem.W.Frag} {ρ ρ1 ρ2 : List Sl} {d e f : Dt} {te ta tb tc : TE} {t u : TT} {r r' : R2}
theorem RV.inl (h : RV K r d e f) : RV K (fun x y H Q => r x y H Q ∨ r' x y H Q) d e f := fun O Y H x y dm hx hy Q q => .inl (h O Y H x y dm hx hy Q q)
theorem RV.inr (h : RV K r' d e f) : RV K (fun x y H Q => r x y H Q ∨ r' x y H Q) d e f := fun O Y H x y dm hx hy Q q => .inr (h O Y H x y dm hx hy Q q)
theorem HasR.dp {O Y : List Addr} {n : Nat} {H : Hp} {v : V} (hn : lay n d = true) (h : HasR K O Y H d v) : Dp K H v (pd d) := by
  rcases h with h | h
  · exact Has.dp hn (h.mono (cut_le _ _))
  · cases d with
    | lst ds =>
      cases n with
      | zero => simp [lay] at hn
      | succ n =>
        obtain ⟨a, xs, h1, _, _, h3, h4⟩ := h
        subst h1
        exact .lst (.inl h3) (HasL.dp (n := n) (by simpa [lay] using hn) (h4.mono (cut_le _ _)))
    | dk _ _ => simp [lay] at hn
    | dt _ _ => simp [lay] at hn
    | on _ _ => simp [lay] at hn
    | _ => exact False.elim h
theorem rv_eqD {n m : Nat} (hd : lay n d = true) (he : lay m e = true) (hn : n ≤ 60 := by decide) (hm : m ≤ 60 := by decide) : RV K (rEqA K) d e (.bl (deq d e)) := RV.inr fun O Y H x y dm hx hy Q q =>
  ⟨pd d, pd e, hx.dp hd, hy.dp he, lay_shaped hn hd, lay_shaped hm he, q _ H (Same.refl H) rfl⟩
theorem rv_neD {n m : Nat} (hd : lay n d = true) (he : lay m e = true) (hn : n ≤ 60 := by decide) (hm : m ≤ 60 := by decide) : RV K (rNeA K) d e (.bl (!deq d e)) := RV.inr fun O Y H x y dm hx hy Q q =>
  ⟨pd d, pd e, hx.dp hd, hy.dp he, lay_shaped hn hd, lay_shaped hm he, q _ H (Same.refl H) rfl⟩
theorem rv_eqAI {i j : Int} : RV K (rEqA K) (.int i) (.int j) (.bl (decide (i = j))) := RV.inl rv_eqI
theorem rv_eqAS {i j : Str} : RV K (rEqA K) (.str i) (.str j) (.bl (decide (i = j))) := RV.inl rv_eqS
theorem rv_eqAB {i j : Bool} : RV K (rEqA K) (.bl i) (.bl j) (.bl (decide (i = j))) := RV.inl rv_eqB
theorem rv_neAI {i j : Int} : RV K (rNeA K) (.int i) (.int j) (.bl (!decide (i = j))) := RV.inl rv_neI
theorem rv_neAS {i j : Str} : RV K (rNeA K) (.str i) (.str j) (.bl (!decide (i = j))) := RV.inl rv_neS
theorem rv_neAB {i j : Bool} : RV K (rNeA K) (.bl i) (.bl j) (.bl (!decide (i = j))) := RV.inl rv_neB
theorem rv_isB {i j : Bool} : RV K (fun x y H Q => ∃ a b, x = .bl a ∧ y = .bl b ∧ Q (.bl (decide (a = b))) H) (.bl i) (.bl j) (.bl (decide (i = j))) := fun O Y H x y dm hx hy Q q => ⟨i, j, hx.bl, hy.bl, q _ H (Same.refl H) rfl⟩
theorem rv_isntB {i j : Bool} : RV K (fun x y H Q => ∃ a b, x = .bl a ∧ y = .bl b ∧ Q (.bl (!decide (a = b))) H) (.bl i) (.bl j) (.bl (!decide (i = j))) := fun O Y H x y dm hx hy Q q => ⟨i, j, hx.bl, hy.bl, q _ H (Same.refl H) rfl⟩
theorem rv_addI {i j : Int} : RV K (rAddA K) (.int i) (.int j) (.int (i + j)) := RV.inl rv_I0
theorem rv_addT {ds es : List Dt} (hz : ds.length + es.length ≤ sizeLine) : RV K (rAddA K) (.tup ds) (.tup es) (.tup (ds ++ es)) := RV.inr (RV.inl fun O Y H x y dm hx hy Q q => by
  obtain ⟨a, xs, rfl, h1, h2⟩ := hx.tup
  obtain ⟨b, ys, rfl, g1, g2⟩ := hy.tup
  refine ⟨a, b, xs, ys, rfl, rfl, SqT.of (cut_le _ _ _ _ h1), SqT.of (cut_le _ _ _ _ g1), by rw [h2.len, g2.len]; exact hz, fun e0 => ?_, fun _ e0 => ?_, fun _ _ p hp => ?_⟩
  · subst e0
    have : ds = [] := List.length_eq_zero_iff.mp (by rw [← h2.len]; rfl)
    subst this
    exact q _ H (Same.refl H) ⟨b, ys, rfl, g1, g2⟩
  · subst e0
    have : es = [] := List.length_eq_zero_iff.mp (by rw [← g2.len]; rfl)
    subst this
    rw [List.append_nil] at *
    exact q _ H (Same.refl H) ⟨a, xs, rfl, h1, h2⟩
  · exact q _ _ (same_new hp) ⟨p, xs ++ ys, rfl, cut_new dm hp, (h2.app g2).mono (cut_mono (same_new hp) _)⟩)
theorem rv_addL {ds es : List Dt} (hz : ds.length + es.length ≤ sizeLine) : RV K (rAddA K) (.lst ds) (.lst es) (.lst (ds ++ es)) := RV.inr (RV.inr (RV.inl fun O Y H x y dm hx hy Q q => by
  obtain ⟨a, xs, rfl, h1, h2⟩ := hx.lst
  obtain ⟨b, ys, rfl, g1, g2⟩ := hy.lst
  exact ⟨a, b, xs, ys, rfl, rfl, h1, g1, by rw [h2.len, g2.len]; exact hz, fun p hp => q _ _ (same_new hp) ⟨p, xs ++ ys, rfl, .inl (cut_new dm hp), (h2.app g2).mono (cut_mono (same_new hp) _)⟩⟩))
theorem rv_mul {i j : Int} (h : CMul i j) : RV K (rI CMul fun i j => .int (i * j)) (.int i) (.int j) (.int (i * j)) := rv_I h
theorem rv_mod {i j : Int} (h : 0 < j) : RV K (rI (fun _ j => 0 < j) fun i j => .int (i % j)) (.int i) (.int j) (.int (i % j)) := rv_I (C := fun _ j => 0 < j) h
theorem rv_fdiv {i j : Int} (h : CDiv i j) : RV K (rI CDiv fun i j => .int (i / j)) (.int i) (.int j) (.int (i / j)) := rv_I h
/-! ### in -/
def flatD : Dt → Bool
  | .non => true
  | .bl _ => true
  | .int _ => true
  | .str _ => true
  | _ => false
def eqF : Dt → Dt → Bool
  | .non, .non => true
  | .bl a, .bl b => a == b
  | .bl a, .int b => (if a then 1 else 0) == b
  | .int a, .bl b => a == (if b then 1 else 0)
  | .int a, .int b => a == b
  | .str a, .str b => a == b
  | _, _ => false
def inF (d : Dt) (ds : List Dt) : Bool := ds.any fun e => eqF e d
theorem flat_v {H : Hp} {v : V} (hf : flatD d = true) (h : Has K H d v) : flatV v = true := by
  cases d with
  | non => cases (show v = _ from h); rfl
  | bl b => cases (show v = _ from h); rfl
  | int b => cases (show v = _ from h); rfl
  | str b => cases (show v = _ from h); rfl
  | _ => cases hf
theorem eqF_v {H : Hp} {v w : V} (hd : flatD d = true) (he : flatD e = true) (h : Has K H d v) (g : Has K H e w) : eqV v w = eqF d e := by
  cases d with
  | non => cases (show v = _ from h); cases e with
    | non => cases (show w = _ from g); rfl
    | bl b => cases (show w = _ from g); rfl
    | int b => cases (show w = _ from g); rfl
    | str b => cases (show w = _ from g); rfl
    | _ => cases he
  | bl b => cases (show v = _ from h); cases e with
    | non => cases (show w = _ from g); rfl
    | bl b => cases (show w = _ from g); rfl
    | int b => cases (show w = _ from g); rfl
    | str b => cases (show w = _ from g); rfl
    | _ => cases he
  | int b => cases (show v = _ from h); cases e with
    | non => cases (show w = _ from g); rfl
    | bl b => cases (show w = _ from g); rfl
    | int b => cases (show w = _ from g); rfl
    | str b => cases (show w = _ from g); rfl
    | _ => cases he
  | str b => cases (show v = _ from h); cases e with
    | non => cases (show w = _ from g); rfl
    | bl b => cases (show w = _ from g); rfl
    | int b => cases (show w = _ from g); rfl
    | str b => cases (show w = _ from g); rfl
    | _ => cases he
  | _ => cases hd
theorem flats_v {H : Hp} : ∀ {ds : List Dt} {vs : List V}, ds.all flatD = true → HasL K H ds vs → vs.all flatV = true
  | [], _, _, h => by cases (show _ = [] from h); rfl
  | d :: ds, _, e, ⟨v, r, h1, h2, h3⟩ => by
    subst h1
    rw [List.all_cons, Bool.and_eq_true] at e ⊢
    exact ⟨flat_v e.1 h2, flats_v e.2 h3⟩
theorem inF_v {H : Hp} {x : V} (hd : flatD d = true) (hx : Has K H d x) : ∀ {ds : List Dt} {vs : List V}, ds.all flatD = true → HasL K H ds vs → inV x vs = inF d ds
  | [], _, _, h => by cases (show _ = [] from h); rfl
  | e :: ds, _, h, ⟨v, r, h1, h2, h3⟩ => by
    subst h1
    rw [List.all_cons, Bool.and_eq_true] at h
    have ih := inF_v hd hx h.2 h3
    show (eqV v x || r.any fun y => eqV y x) = (eqF e d || ds.any fun y => eqF y d)
    rw [eqF_v h.1 hd h2 hx]
    exact congrArg _ ih
/-- in a list, a tuple, a tuple of the top: the members -/
inductive Members : Dt → List Dt → Prop
  | lst (ds : List Dt) : Members (.lst ds) ds
  | tup (ds : List Dt) : Members (.tup ds) ds
  | kt (ds : List Dt) : Members (.kt ds) ds
theorem HasR.members {O Y : List Addr} {H : Hp} {v : V} {ds : List Dt} (h : HasR K O Y H e v) (m : Members e ds) : ∃ p xs, v = .ref p ∧ (SqL K H p xs ∨ SqT K H p xs) ∧ HasL K (cut H (O ++ Y)) ds xs := by
  cases m with
  | lst => obtain ⟨a, xs, h1, h2, h3⟩ := h.lst; exact ⟨a, xs, h1, .inl (.inl h2), h3⟩
  | tup => obtain ⟨a, xs, h1, h2, h3⟩ := h.tup; exact ⟨a, xs, h1, .inr (SqT.of (cut_le _ _ _ _ h2)), h3⟩
  | kt =>
    rcases h with ⟨a, xs, h1, h2, h3⟩ | h
    · exact ⟨a, xs, h1, .inr (.inr h2), h3⟩
    · exact False.elim h
theorem HasR.flat {O Y : List Addr} {H : Hp} {v : V} (h : HasR K O Y H d v) (hf : flatD d = true) : Has K (cut H (O ++ Y)) d v := by
  rcases h with h | h
  · exact h
  · cases d with
    | lst ds => cases hf
    | dk ks ds => cases hf
    | dt ks ds => cases hf
    | on f ds => cases hf
    | _ => exact False.elim h
theorem rv_in {ds : List Dt} (m : Members e ds) (hd : flatD d = true) (hs : ds.all flatD = true) : RV K (rInA K) d e (.bl (inF d ds)) := RV.inl fun O Y H x y dm hx hy Q q => by
  obtain ⟨p, xs, rfl, h1, h2⟩ := hy.members m
  have hx := hx.flat hd
  exact ⟨p, xs, rfl, h1, flat_v hd hx, flats_v hs h2, q _ H (Same.refl H) (congrArg V.bl (inF_v hd hx hs h2))⟩
theorem rv_notin {ds : List Dt} (m : Members e ds) (hd : flatD d = true) (hs : ds.all flatD = true) : RV K (rNotInA K) d e (.bl (!inF d ds)) := RV.inl fun O Y H x y dm hx hy Q q => by
  obtain ⟨p, xs, rfl, h1, h2⟩ := hy.members m
  have hx := hx.flat hd
  exact ⟨p, xs, rfl, h1, flat_v hd hx, flats_v hs h2, q _ H (Same.refl H) (congrArg (fun b => V.bl (!b)) (inF_v hd hx hs h2))⟩
theorem pds_any {g : Dt → Bool} {h : PyData → Bool} (hg : ∀ d, h (pd d) = g d) : ∀ ds : List Dt, (pds ds).any h = ds.any g
  | [] => rfl
  | d :: ds => by
    show (h (pd d) || (pds ds).any h) = (g d || ds.any g)
    rw [hg, pds_any hg ds]
/-- in a list of data of any depth -/
theorem rv_inD {n m : Nat} {ds : List Dt} (hd : lay n d = true) (he : lay m (.lst ds) = true) (hn : n ≤ 60 := by decide) (hm : m ≤ 60 := by decide) : RV K (rInA K) d (.lst ds) (.bl (ds.any fun z => deq z d)) := RV.inr (RV.inl fun O Y H x y dm hx hy Q q =>
  ⟨pd d, pds ds, hx.dp hd, hy.dp he, lay_shaped hn hd, lay_shaped (d := .lst ds) hm he, q _ H (Same.refl H) (congrArg V.bl (pds_any (fun _ => rfl) ds))⟩)
theorem rv_notinD {n m : Nat} {ds : List Dt} (hd : lay n d = true) (he : lay m (.lst ds) = true) (hn : n ≤ 60 := by decide) (hm : m ≤ 60 := by decide) : RV K (rNotInA K) d (.lst ds) (.bl (!ds.any fun z => deq z d)) := RV.inr (RV.inl fun O Y H x y dm hx hy Q q =>
  ⟨pd d, pds ds, hx.dp hd, hy.dp he, lay_shaped hn hd, lay_shaped (d := .lst ds) hm he, q _ H (Same.refl H) (congrArg (fun b => V.bl (!b)) (pds_any (fun _ => rfl) ds))⟩)
/-- in a dict -/
theorem dget_r {O Y : List Addr} {H : Hp} {x y : V} {k : Key} {ks : List Key} {ds : List Dt} (hx : HasR K O Y H (kD k) x) (hy : HasR K O Y H (.dk ks ds) y) : ∃ a o, y = .ref a ∧ DGet H a x o ∧ o.isSome = (dget ks ds k).isSome := by
  obtain ⟨a, xs, rfl, e1, e2, e3⟩ := hy.dk
  have hv := valV_has (k := k) e2 e3
  have ex := hx.key
  subst ex
  refine ⟨a, _, rfl, .inl ⟨_, k, e1, rfl, rfl⟩, ?_⟩
  cases q2 : dget ks ds k with
  | none => rw [q2] at hv; rw [hv]; rfl
  | some d => rw [q2] at hv; obtain ⟨v, e4, _⟩ := hv; rw [e4]; rfl
theorem rv_ind {k : Key} {ks : List Key} {ds : List Dt} : RV K (rInA K) (kD k) (.dk ks ds) (.bl (dget ks ds k).isSome) := RV.inr (RV.inr fun O Y H x y dm hx hy Q q => by
  obtain ⟨a, o, e1, e2, e3⟩ := dget_r hx hy
  exact ⟨a, o, e1, e2, q _ H (Same.refl H) (congrArg V.bl e3)⟩)
theorem rv_notind {k : Key} {ks : List Key} {ds : List Dt} : RV K (rNotInA K) (kD k) (.dk ks ds) (.bl (!(dget ks ds k).isSome)) := RV.inr (RV.inr fun O Y H x y dm hx hy Q q => by
  obtain ⟨a, o, e1, e2, e3⟩ := dget_r hx hy
  exact ⟨a, o, e1, e2, q _ H (Same.refl H) (congrArg (fun b => V.bl (!b)) e3)⟩)
/-! ### slices -/
def EvO (K : PySem.W.Frag) (to : TO) (ρ : List Sl) (o : Option Int) : Prop := ∀ O Y H σ, Env K O Y H ρ σ → ∀ Q : Option Int → Hp → Prop, (∀ H', Same H H' → Q o H') → to σ H Q
theorem eo_no : EvO K tNoPart ρ none := fun O Y H σ I Q q => q H (Same.refl H)
theorem eo_part {i : Int} (h : Ev K te ρ (.int i)) : EvO K (tPart te) ρ (some i) := fun O Y H σ I Q q => h O Y H σ I _ fun v H' s hv => ⟨i, hv, q H' s⟩
def cutD (ds : List Dt) (lo hi : Option Int) : List Dt := (ds.drop (HT.sIx ds.length 0 lo)).take (HT.sIx ds.length ds.length hi - HT.sIx ds.length 0 lo)
theorem cut_has {H : Hp} {ds : List Dt} {vs : List V} {lo hi : Option Int} (h : HasL K H ds vs) : HasL K H (cutD ds lo hi) (cutV vs lo hi) := by
  unfold cutD cutV
  rw [h.len]
  exact (h.drop _).take _
theorem sIx_top (n : Nat) (hi : Option Int) : HT.sIx n n hi ≤ n := HT.sIx_le n n (Nat.le_refl n) hi
theorem ev_slT {tl th : TO} {ds : List Dt} {lo hi : Option Int} (h : Ev K te ρ (.tup ds)) (hl : EvO K tl ρ lo) (hh : EvO K th ρ hi) : Ev K (tSl (rSlX K) te tl th) ρ (.tup (cutD ds lo hi)) := fun O Y H σ I Q q =>
  h O Y H σ I _ fun v H1 s1 hv => hl O Y H1 σ (I.mono s1) _ fun H2 s2 => hh O Y H2 σ (I.mono (s1.trans s2)) _ fun H3 s3 => by
    obtain ⟨a, xs, rfl, h2, h3⟩ := hv.mono (cut_mono (s2.trans s3) _)
    refine .inl ⟨a, xs, rfl, SqT.of (cut_le _ _ _ _ h2), fun hw => ?_, fun _ p hp => ?_⟩
    · have e : cutD ds lo hi = ds := by
        unfold cutD
        rw [← h3.len, hw.1, hw.2, List.drop_zero, h3.len, Nat.sub_zero, List.take_length]
      rw [e] at q
      exact q _ H3 ((s1.trans s2).trans s3) ⟨a, xs, rfl, h2, h3⟩
    · exact q _ _ (((s1.trans s2).trans s3).trans (same_new hp)) ⟨p, cutV xs lo hi, rfl, cut_new (dom_mono I.dom ((s1.trans s2).trans s3)) hp, (cut_has h3).mono (cut_mono (same_new hp) _)⟩
theorem ev_slL {tl th : TO} {ds : List Dt} {lo hi : Option Int} (h : EvR K te ρ (.lst ds)) (hl : EvO K tl ρ lo) (hh : EvO K th ρ hi) : Ev K (tSl (rSlX K) te tl th) ρ (.lst (cutD ds lo hi)) := fun O Y H σ I Q q =>
  h O Y H σ I _ fun v H1 s1 hv => hl O Y H1 σ (I.mono s1) _ fun H2 s2 => hh O Y H2 σ (I.mono (s1.trans s2)) _ fun H3 s3 => by
    obtain ⟨a, xs, rfl, h2, h3⟩ := (hv.mono (s2.trans s3)).lst
    exact .inr ⟨a, xs, rfl, .inl h2, fun p hp => q _ _ (((s1.trans s2).trans s3).trans (same_new hp)) ⟨p, cutV xs lo hi, rfl, .inl (cut_new (dom_mono I.dom ((s1.trans s2).trans s3)) hp), (cut_has h3).mono (cut_mono (same_new hp) _)⟩⟩
theorem cutD_to (ds : List Dt) (n : Nat) : cutD ds none (some (n : Int)) = ds.take n := by
  unfold cutD
  rw [HT.sIx_none, HT.sIx_nat, List.drop_zero, Nat.sub_zero]
  by_cases h : n ≤ ds.length
  · rw [Nat.min_eq_left h]
  · rw [Nat.min_eq_right (by omega), List.take_length, List.take_of_length_le (by omega)]
theorem cutD_from (ds : List Dt) (n : Nat) : cutD ds (some (n : Int)) none = ds.drop n := by
  unfold cutD
  rw [HT.sIx_none, HT.sIx_nat]
  by_cases h : n ≤ ds.length
  · rw [Nat.min_eq_left h]
    exact List.take_of_length_le (by rw [List.length_drop]; omega)
  · rw [Nat.min_eq_right (by omega), List.drop_length, List.drop_eq_nil_of_le (by omega : ds.length ≤ n), List.take_nil]
/-! ### built-ins -/
theorem RC.inl {r r' : List V → Hp → VK → Prop} {ds : List Dt} (h : RC K r ds f) : RC K (fun x H Q => r x H Q ∨ r' x H Q) ds f := fun O Y H x dm hx Q q => .inl (h O Y H x dm hx Q q)
theorem RC1.inl {r r' : List V → Hp → VK → Prop} (h : RC1 K r d f) : RC1 K (fun x H Q => r x H Q ∨ r' x H Q) d f := fun O Y H x dm hx Q q => .inl (h O Y H x dm hx Q q)
theorem RC1.inr {r r' : List V → Hp → VK → Prop} (h : RC1 K r' d f) : RC1 K (fun x H Q => r x H Q ∨ r' x H Q) d f := fun O Y H x dm hx Q q => .inr (h O Y H x dm hx Q q)
def rInt1 : List V → Hp → VK → Prop := fun xs H Q => (∃ i, xs = [.int i] ∧ Q (.int i) H) ∨ ∃ k, xs = [.bl k] ∧ Q (.int (if k then 1 else 0)) H
def rBool1 : List V → Hp → VK → Prop := fun xs H Q => (∃ i, xs = [.int i] ∧ Q (.bl (i != 0)) H) ∨ ∃ k, xs = [.bl k] ∧ Q (.bl k) H
def rAbs1 : List V → Hp → VK → Prop := fun xs H Q => ∃ i, xs = [.int i] ∧ Q (.int (if i < 0 then -i else i)) H
def rMax2 : List V → Hp → VK → Prop := fun xs H Q => ∃ i j, xs = [.int i, .int j] ∧ Q (.int (if j > i then j else i)) H
def rMin2 : List V → Hp → VK → Prop := fun xs H Q => ∃ i j, xs = [.int i, .int j] ∧ Q (.int (if j < i then j else i)) H
def rLstOf (K : PySem.W.Frag) : List V → Hp → VK → Prop := fun xs H Q => ∃ p ys, xs = [.ref p] ∧ (SqL K H p ys ∨ SqT K H p ys) ∧ ∀ l, H l = none → Q (.ref l) (upd H l (.lst ys))
def rTupOf (K : PySem.W.Frag) : List V → Hp → VK → Prop := fun xs H Q => ∃ p ys, xs = [.ref p] ∧ ((SqL K H p ys ∧ ∀ l, H l = none → Q (.ref l) (upd H l (.tup ys))) ∨ (SqT K H p ys ∧ Q (.ref p) H))
theorem rc_int {i : Int} : RC1 K rInt1 (.int i) (.int i) := fun O Y H x dm hx Q q => .inl ⟨i, by rw [hx.int], q _ H (Same.refl H) rfl⟩
theorem rc_intB {b : Bool} : RC1 K rInt1 (.bl b) (.int (if b then 1 else 0)) := fun O Y H x dm hx Q q => .inr ⟨b, by rw [hx.bl], q _ H (Same.refl H) rfl⟩
theorem rc_abs {i : Int} : RC1 K rAbs1 (.int i) (.int (if i < 0 then -i else i)) := fun O Y H x dm hx Q q => ⟨i, by rw [hx.int], q _ H (Same.refl H) rfl⟩
theorem rc_max2 {i j : Int} : RC K rMax2 [.int i, .int j] (.int (if j > i then j else i)) := fun O Y H xs dm hx Q q => by
  obtain ⟨v, r, rfl, e2, w, r2, rfl, e3, e4⟩ := hx
  cases e2
  cases e3
  cases e4
  exact ⟨i, j, rfl, q _ H (Same.refl H) rfl⟩
theorem rc_min2 {i j : Int} : RC K rMin2 [.int i, .int j] (.int (if j < i then j else i)) := fun O Y H xs dm hx Q q => by
  obtain ⟨v, r, rfl, e2, w, r2, rfl, e3, e4⟩ := hx
  cases e2
  cases e3
  cases e4
  exact ⟨i, j, rfl, q _ H (Same.refl H) rfl⟩
theorem rc_tupL {ds : List Dt} : RC1 K (rTupOf K) (.lst ds) (.tup ds) := fun O Y H x dm hx Q q => by
  obtain ⟨a, xs, rfl, h2, h3⟩ := hx.lst
  exact ⟨a, xs, rfl, .inl ⟨.inl h2, fun p hp => q _ _ (same_new hp) ⟨p, xs, rfl, cut_new dm hp, h3.mono (cut_mono (same_new hp) _)⟩⟩⟩
theorem rc_lst {ds : List Dt} (m : Members d ds) : RC1 K (rLstOf K) d (.lst ds) := fun O Y H x dm hx Q q => by
  obtain ⟨a, xs, rfl, h2, h3⟩ := hx.members m
  exact ⟨a, xs, rfl, h2, fun p hp => q _ _ (same_new hp) ⟨p, xs, rfl, .inl (cut_new dm hp), h3.mono (cut_mono (same_new hp) _)⟩⟩
theorem rc_all {bs : List Bool} : RC1 K (rAll K) (.lst (bs.map .bl)) (.bl (bs.all id)) := fun O Y H x dm hx Q q => by
  obtain ⟨a, xs, rfl, h2, h3⟩ := hx.lst
  rw [h3.bls] at h2
  exact ⟨a, bs, rfl, .inl h2, q _ H (Same.refl H) rfl⟩
theorem rc_any {bs : List Bool} : RC1 K (rAny K) (.lst (bs.map .bl)) (.bl (bs.any id)) := fun O Y H x dm hx Q q => by
  obtain ⟨a, xs, rfl, h2, h3⟩ := hx.lst
  rw [h3.bls] at h2
  exact ⟨a, bs, rfl, .inl h2, q _ H (Same.refl H) rfl⟩
theorem rc_sum {ns : List Int} : RC1 K (rSum K) (.lst (ns.map .int)) (.int ns.sum) := fun O Y H x dm hx Q q => by
  obtain ⟨a, xs, rfl, h2, h3⟩ := hx.lst
  rw [h3.ints] at h2
  exact ⟨a, ns, rfl, .inl h2, q _ H (Same.refl H) rfl⟩
/-! isinstance of a built-in class -/
def tyD : Dt → String
  | .non => "NoneType"
  | .bl _ => "bool"
  | .int _ => "int"
  | .str _ => "str"
  | .tup _ => "tuple"
  | .lst _ => "list"
  | .dk _ _ => "dict"
  | .dt _ _ => "dict"
  | _ => ""
def plainD : Dt → Bool
  | .kt _ => false
  | .kl _ => false
  | .val _ => false
  | .ins _ _ _ => false
  | .on _ _ => false
  | .dk _ _ => false
  | .dt _ _ => false
  | _ => true
theorem HasR.ty {O Y : List Addr} {H : Hp} : ∀ {d : Dt} {v : V}, plainD d = true → HasR K O Y H d v → TyX K H v (.type (tyD d))
  | .non, _, _, h => by rw [h.non]; exact .base .non
  | .bl _, _, _, h => by rw [h.bl]; exact .base (.bl _)
  | .int _, _, _, h => by rw [h.int]; exact .base (.int _)
  | .str _, _, _, h => by rw [h.str]; exact .base (.str _)
  | .tup _, _, _, h => by obtain ⟨a, xs, e, h1, _⟩ := h.tup; rw [e]; exact .base (.tup (cut_le _ _ _ _ h1))
  | .lst _, _, _, h => by
    obtain ⟨a, xs, e, h1, _⟩ := h.lst
    rw [e]
    rcases h1 with h1 | ⟨o, h1⟩
    · exact .base (.lst h1)
    · exact .base (.frz h1)
  | .dk _ _, _, z, _ => by cases z
  | .dt _ _, _, z, _ => by cases z
  | .kt _, _, z, _ => by cases z
  | .kl _, _, z, _ => by cases z
  | .val _, _, z, _ => by cases z
  | .ins _ _ _, _, z, _ => by cases z
  | .on _ _, _, z, _ => by cases z
theorem ev_isi {T : String} {b : Bool} (h : EvR K te ρ d) (hz : plainD d = true) (hb : kitB (tyD d) T = some b) : Ev K (tCB (rIsi K) (tCons te (tCons (tC (.ty T)) tNil))) ρ (.bl b) := fun O Y H σ I Q q =>
  h O Y H σ I _ fun v H1 s hv => ⟨v, .ty T, _, _, b, rfl, .ty T, hv.ty hz, kit_ty hb, q _ H1 s rfl⟩
end
end DL
namespace DL
open PySem PySem.Spec L2
/-! ### what changes slots, and answers one of several things -/
section
variable (K : PySem.W.Frag)
def EvG (te : TE) (ρ : List Sl) (Post : Dt → List Sl → Prop) : Prop := ∀ O Y H σ, Env K O Y H ρ σ → ∀ Q : VK, (∀ d ρ' v H', Post d ρ' → Env K O Y H' ρ' σ → Same (cut H O) (cut H' O) → Has K (cut H' (O ++ Y)) d v → Q v H') → te σ H Q
def EvAG (ta : TA) (ρ : List Sl) (Post : List Dt → List Sl → Prop) : Prop := ∀ O Y H σ, Env K O Y H ρ σ → ∀ Q : List V → Hp → Prop, (∀ ds ρ' vs H', Post ds ρ' → Env K O Y H' ρ' σ → Same (cut H O) (cut H' O) → HasL K (cut H' (O ++ Y)) ds vs → Q vs H') → ta σ H Q
def EvTG (tt : TT) (ρ : List Sl) (Post : Bool → List Sl → Prop) : Prop := ∀ O Y H σ, Env K O Y H ρ σ → ∀ Q : Bool → Hp → Prop, (∀ b ρ' H', Post b ρ' → Env K O Y H' ρ' σ → Same (cut H O) (cut H' O) → Q b H') → tt σ H Q
def EvIG (wi : TI) (ρ : List Sl) (Post : List Dt → List Sl → Prop) : Prop := ∀ O Y H σ, Env K O Y H ρ σ → ∀ R : It → Hp → Prop, (∀ J ds ρ' H', Post ds ρ' → Env K O Y H' ρ' σ → Same (cut H O) (cut H' O) → WkD K J O Y H' ds → R J H') → wi σ H R
variable {A : Type}
def spG (args : A → List Dt) (dom : A → Prop) (R : A → Dt → Prop) : Sp := fun vs H Q _ => ∃ x Y, (∀ a ∈ Y, H a ≠ none) ∧ HasL K (cut H Y) (args x) vs ∧ dom x ∧
  ∀ d v H', R x d → Same H H' → Has K (cut H' Y) d v → Q v H'
/-- a new object out, one of several -/
def spGN (args : A → List Dt) (dom : A → Prop) (R : A → Dt → Prop) : Sp := fun vs H Q _ => ∃ x Y, (∀ a ∈ Y, H a ≠ none) ∧ HasL K (cut H Y) (args x) vs ∧ dom x ∧
  ∀ d a H', R x d → Same H H' → H a = none → OwnAt K [a] Y H' d (.ref a) → Q (.ref a) H'
/-- an own object of a kind first, which stays of its kind -/
def spPG (kind : Dt → Prop) (args : A → List Dt) (dom : A → Prop) (R : A → Dt → Prop) : Sp := fun vs H Q _ => ∃ x a r Y d0, vs = .ref a :: r ∧ (∀ b ∈ a :: Y, H b ≠ none) ∧ OwnAt K [a] Y H d0 (.ref a) ∧ kind d0 ∧
  HasL K (cut H (a :: Y)) (args x) r ∧ dom x ∧ ∀ d d1 v H', R x d → kind d1 → Same (cut H [a]) (cut H' [a]) → OwnAt K [a] Y H' d1 (.ref a) → Has K (cut H' (a :: Y)) d v → Q v H'
end
section
variable {K : PySem.W.Frag} {ρ ρ' ρ1 ρ2 : List Sl} {P : Po} {d e f : Dt} {te ta tb tc : TE} {tt t2 : TT} {t u : TS} {r r' : R2} {Post : Dt → List Sl → Prop} {wi : TI} {g : TG} {i j : Nat}
theorem eg_ev (h : Ev K te ρ d) (k : Post d ρ) : EvG K te ρ Post := fun O Y H σ I Q q => h O Y H σ I Q fun v H' s hv => q d ρ v H' k (I.mono s) (cut_mono s _) hv
theorem eg_m (h : EvM K te ρ d ρ') (k : Post d ρ') : EvG K te ρ Post := fun O Y H σ I Q q => h O Y H σ I Q fun v H' I' s hv => q d ρ' v H' k I' s hv
theorem eg_imp {Post' : Dt → List Sl → Prop} (h : EvG K te ρ Post') (k : ∀ d ρ', Post' d ρ' → Post d ρ') : EvG K te ρ Post := fun O Y H σ I Q q => h O Y H σ I Q fun d ρ' v H' p I' s hv => q d ρ' v H' (k d ρ' p) I' s hv
theorem eg_op (h : EvG K ta ρ fun d ρ1 => EvG K tb ρ1 fun e ρ2 => ∃ f, RV K r d e f ∧ Post f ρ2) : EvG K (tOp r ta tb) ρ Post := fun O Y H σ I Q q =>
  h O Y H σ I _ fun d ρ1 x H1 h1 I1 s1 hx => h1 O Y H1 σ I1 _ fun e ρ2 y H2 h2 I2 s2 hy => by
    obtain ⟨f, hr, hp⟩ := h2
    exact hr O Y H2 x y I2.dom (.inl (hx.mono (cut_app s2))) (.inl hy) Q fun v H3 s3 hv => q f ρ2 v H3 hp (I2.mono s3) ((s1.trans s2).trans (cut_mono s3 _)) hv
theorem eg_un {r : V → Hp → VK → Prop} (h : EvG K ta ρ fun d ρ1 => ∃ f, RU K r d f ∧ Post f ρ1) : EvG K (tUn r ta) ρ Post := fun O Y H σ I Q q =>
  h O Y H σ I _ fun d ρ1 x H1 h1 I1 s1 hx => by
    obtain ⟨f, hr, hp⟩ := h1
    exact hr O Y H1 x I1.dom (.inl hx) Q fun v H3 s3 hv => q f ρ1 v H3 hp (I1.mono s3) (s1.trans (cut_mono s3 _)) hv
/-- the first one an own object that the second does not change -/
theorem eg_opR (ha : EvR K ta ρ d) (hb : Ev K tb ρ e) (hr : RV K r d e f) (k : Post f ρ) : EvG K (tOp r ta tb) ρ Post := eg_ev (ev_opR ha hb.rd hr) k
theorem ag_nil {PostA : List Dt → List Sl → Prop} (k : PostA [] ρ) : EvAG K tNil ρ PostA := fun O Y H σ I Q q => q [] ρ [] H k I (Same.refl _) rfl
theorem ag_cons {tr : TA} {PostA : List Dt → List Sl → Prop} (h : EvG K ta ρ fun d ρ1 => EvAG K tr ρ1 fun ds ρ2 => PostA (d :: ds) ρ2) : EvAG K (tCons ta tr) ρ PostA := fun O Y H σ I Q q =>
  h O Y H σ I _ fun d ρ1 x H1 h1 I1 s1 hx => h1 O Y H1 σ I1 _ fun ds ρ2 vs H2 h2 I2 s2 hv => q (d :: ds) ρ2 (x :: vs) H2 h2 I2 (s1.trans s2) ⟨x, vs, rfl, hx.mono (cut_app s2), hv⟩
theorem ag_ea {ta : TA} {ds : List Dt} {PostA : List Dt → List Sl → Prop} (h : EvA K ta ρ ds) (k : PostA ds ρ) : EvAG K ta ρ PostA := fun O Y H σ I Q q => h O Y H σ I Q fun vs H' s hv => q ds ρ vs H' k (I.mono s) (cut_mono s _) hv
theorem eg_tup {ta : TA} (h : EvAG K ta ρ fun ds ρ1 => ds.length ≤ sizeLine ∧ Post (.tup ds) ρ1) : EvG K (tTup ta) ρ Post := fun O Y H σ I Q q => h O Y H σ I _ fun ds ρ1 vs H1 ⟨hz, hp⟩ I1 s1 hv => by
  refine ⟨by rw [hv.len]; exact hz, fun p hn => q _ ρ1 _ _ hp (I1.mono (same_new hn)) (s1.trans (cut_mono (same_new hn) _)) ?_⟩
  exact ⟨p, vs, rfl, cut_new I1.dom hn, hv.mono (cut_mono (same_new hn) _)⟩
theorem eg_lst {ta : TA} (h : EvAG K ta ρ fun ds ρ1 => ds.length ≤ sizeLine ∧ Post (.lst ds) ρ1) : EvG K (tLst ta) ρ Post := fun O Y H σ I Q q => h O Y H σ I _ fun ds ρ1 vs H1 ⟨hz, hp⟩ I1 s1 hv => by
  refine ⟨by rw [hv.len]; exact hz, fun p hn => q _ ρ1 _ _ hp (I1.mono (same_new hn)) (s1.trans (cut_mono (same_new hn) _)) ?_⟩
  exact ⟨p, vs, rfl, .inl (cut_new I1.dom hn), hv.mono (cut_mono (same_new hn) _)⟩
theorem eg_cb {r : List V → Hp → VK → Prop} {ta : TA} (h : EvAG K ta ρ fun ds ρ1 => ∃ f, RC K r ds f ∧ Post f ρ1) : EvG K (tCB r ta) ρ Post := fun O Y H σ I Q q => h O Y H σ I _ fun ds ρ1 vs H1 ⟨f, hr, hp⟩ I1 s1 hv =>
  hr O Y H1 vs I1.dom hv Q fun v H2 s2 hv => q f ρ1 v H2 hp (I1.mono s2) (s1.trans (cut_mono s2 _)) hv
theorem eg_cb1 {r : List V → Hp → VK → Prop} (h : EvG K ta ρ fun d ρ1 => ∃ f, RC1 K r d f ∧ Post f ρ1) : EvG K (tCB r (tCons ta tNil)) ρ Post := fun O Y H σ I Q q => h O Y H σ I _ fun d ρ1 v H1 ⟨f, hr, hp⟩ I1 s1 hv =>
  hr O Y H1 v I1.dom (.inl hv) Q fun v H2 s2 hv => q f ρ1 v H2 hp (I1.mono s2) (s1.trans (cut_mono s2 _)) hv
theorem eg_if (h : EvTG K tt ρ fun b ρ1 => if b = true then EvG K ta ρ1 Post else EvG K tb ρ1 Post) : EvG K (tIf tt ta tb) ρ Post := fun O Y H σ I Q q => h O Y H σ I _ fun b ρ1 H1 h1 I1 s1 => by
  cases b with
  | true =>
    show ta σ H1 Q
    exact h1 O Y H1 σ I1 Q fun d ρ2 v H2 p I2 s2 hv => q d ρ2 v H2 p I2 (s1.trans s2) hv
  | false =>
    show tb σ H1 Q
    exact h1 O Y H1 σ I1 Q fun d ρ2 v H2 p I2 s2 hv => q d ρ2 v H2 p I2 (s1.trans s2) hv
theorem eg_andV (h : EvG K ta ρ fun d ρ1 => ∃ b, d = .bl b ∧ if b = true then EvG K tb ρ1 Post else Post (.bl false) ρ1) : EvG K (tAndV ta tb) ρ Post := fun O Y H σ I Q q => h O Y H σ I _ fun d ρ1 v H1 ⟨b, hb, h1⟩ I1 s1 hv => by
  subst hb
  refine ⟨b, hv, ?_⟩
  cases b with
  | true =>
    show tb σ H1 Q
    exact h1 O Y H1 σ I1 Q fun d ρ2 v H2 p I2 s2 hv => q d ρ2 v H2 p I2 (s1.trans s2) hv
  | false =>
    show Q (.bl false) H1
    exact q (.bl false) ρ1 _ H1 h1 I1 s1 rfl
theorem tg_test {PostT : Bool → List Sl → Prop} (h : EvG K te ρ fun d ρ1 => ∃ b, d = .bl b ∧ PostT b ρ1) : EvTG K (tTest te) ρ PostT := fun O Y H σ I Q q => h O Y H σ I _ fun d ρ1 v H1 ⟨b, hb, hp⟩ I1 s1 hv => by
  subst hb
  exact ⟨b, hv, q b ρ1 H1 hp I1 s1⟩
theorem tg_B {PostT : Bool → List Sl → Prop} (h : EvG K te ρ fun d ρ1 => ∃ b, d = .bl b ∧ PostT b ρ1) : EvTG K (tB te) ρ PostT := fun O Y H σ I Q q => h O Y H σ I _ fun d ρ1 v H1 ⟨b, hb, hp⟩ I1 s1 hv => by
  subst hb
  exact ⟨b, hv, q b ρ1 H1 hp I1 s1⟩
theorem tg_et {b : Bool} {PostT : Bool → List Sl → Prop} (h : EvT K tt ρ b) (k : PostT b ρ) : EvTG K tt ρ PostT := fun O Y H σ I Q q => h O Y H σ I Q fun H' s => q b ρ H' k (I.mono s) (cut_mono s _)
theorem tg_and {PostT : Bool → List Sl → Prop} (h : EvTG K tt ρ fun b ρ1 => if b = true then EvTG K t2 ρ1 PostT else PostT false ρ1) : EvTG K (tAnd tt t2) ρ PostT := fun O Y H σ I Q q => h O Y H σ I _ fun b ρ1 H1 h1 I1 s1 => by
  cases b with
  | true =>
    show t2 σ H1 Q
    exact h1 O Y H1 σ I1 Q fun c ρ2 H2 p I2 s2 => q c ρ2 H2 p I2 (s1.trans s2)
  | false =>
    show Q false H1
    exact q false ρ1 H1 h1 I1 s1
theorem tg_or {PostT : Bool → List Sl → Prop} (h : EvTG K tt ρ fun b ρ1 => if b = true then PostT true ρ1 else EvTG K t2 ρ1 PostT) : EvTG K (tOr tt t2) ρ PostT := fun O Y H σ I Q q => h O Y H σ I _ fun b ρ1 H1 h1 I1 s1 => by
  cases b with
  | true =>
    show Q true H1
    exact q true ρ1 H1 h1 I1 s1
  | false =>
    show t2 σ H1 Q
    exact h1 O Y H1 σ I1 Q fun c ρ2 H2 p I2 s2 => q c ρ2 H2 p I2 (s1.trans s2)
theorem tg_not {PostT : Bool → List Sl → Prop} (h : EvTG K tt ρ fun b ρ1 => PostT (!b) ρ1) : EvTG K (tNot tt) ρ PostT := fun O Y H σ I Q q => h O Y H σ I _ fun b ρ1 H1 h1 I1 s1 => q (!b) ρ1 H1 h1 I1 s1
/-! ### calls -/
section
variable {A : Type} {args : A → List Dt} {dom : A → Prop} {R : A → Dt → Prop} {res : A → Dt} {kind : Dt → Prop} {tr : TA} {E : XK} {p : Option Addr}
theorem eg_callD (x : A) (h : EvAG K tr ρ fun ds ρ1 => ds = args x ∧ dom x ∧ Post (res x) ρ1) : EvG K (tCall (spD K args dom res) [] E tr) ρ Post := fun O Y H σ I Q q => h O Y H σ I _ fun ds ρ1 vs H1 ⟨e1, hd, hp⟩ I1 s1 hv => by
  subst e1
  exact ⟨x, O ++ Y, I1.dom, by rw [List.append_nil]; exact hv, hd, fun v H' s hr => q (res x) ρ1 v H' hp (I1.mono s) (s1.trans (cut_mono s _)) hr⟩
theorem eg_callG (x : A) (h : EvAG K tr ρ fun ds ρ1 => ds = args x ∧ dom x ∧ ∀ d, R x d → Post d ρ1) : EvG K (tCall (spG K args dom R) [] E tr) ρ Post := fun O Y H σ I Q q => h O Y H σ I _ fun ds ρ1 vs H1 ⟨e1, hd, hp⟩ I1 s1 hv => by
  subst e1
  exact ⟨x, O ++ Y, I1.dom, by rw [List.append_nil]; exact hv, hd, fun d v H' hR s hr => q d ρ1 v H' (hp d hR) (I1.mono s) (s1.trans (cut_mono s _)) hr⟩
/-- the pot, then arguments that leave it alone -/
theorem eg_callP {d0 : Dt} (x : A) (hi : ρ[i]? = some (.own p d0)) (hk : kind d0) (h : EvA K tr ρ (args x)) (hd : dom x) (k : ∀ d d1, R x d → kind d1 → Post d (ρ.set i (.own p d1))) : EvG K (tCall (spPG K kind args dom R) [] E (tCons (tVar i) tr)) ρ Post := fun O Y H σ I Q q => by
  obtain ⟨v, hv, ho, _⟩ := I.own hi
  obtain ⟨a, rfl, haO⟩ := ho.ref
  refine ⟨_, hv, h O Y H σ I _ fun vs H1 s1 hvs => ?_⟩
  have I1 := I.mono s1
  have ho1 := ho.mono s1
  obtain ⟨_, hay, _⟩ := own_some ho1
  have hm : ∀ b, b ∈ a :: (O.filter (fun b => decide (b ≠ a)) ++ Y) ↔ b ∈ O ++ Y := fun b => by
    simp only [List.mem_cons, List.mem_append, List.mem_filter, decide_eq_true_eq]
    constructor
    · rintro (z | z | z)
      · subst z; exact .inl haO
      · exact .inl z.1
      · exact .inr z
    · rintro (z | z)
      · by_cases hb : b = a
        · exact .inl hb
        · exact .inr (.inl ⟨z, hb⟩)
      · exact .inr (.inr z)
  have hyc : a ∉ O.filter (fun b => decide (b ≠ a)) ++ Y := fun z => by
    rcases List.mem_append.mp z with z | z
    · exact absurd rfl (of_decide_eq_true (List.mem_filter.mp z).2)
    · exact hay z
  refine ⟨x, a, vs, O.filter (fun b => decide (b ≠ a)) ++ Y, d0, by rw [List.append_nil], fun b hb => I1.dom b ((hm b).mp hb), own_in ho1 (by simp) hyc fun b hb => (hm b).mp hb, hk, ?_, hd, fun d d1 w H2 hR hk1 s2 ho2 hw => ?_⟩
  · rw [cut_perm hm]
    exact hvs
  · have ho3 : OwnAt K O Y H2 d1 (.ref a) := own_in ho2 haO hay fun b hb => (hm b).mpr hb
    rw [cut_perm hm] at hw
    refine q d (ρ.set i (.own p d1)) w H2 (k d d1 hR hk1) (I1.turn hi hv s2 ho3) ?_ hw
    refine (cut_mono s1 O).trans fun b o hb => ?_
    obtain ⟨h1, h2⟩ := cut_some.mp hb
    have hba : b ≠ a := fun z => h1 (by rw [z]; exact haO)
    exact cut_some.mpr ⟨h1, (cut_some.mp (s2 b o (cut_some.mpr ⟨by simp [hba], h2⟩))).2⟩
end
/-! ### walks -/
theorem ig_ei {ds : List Dt} {PostA : List Dt → List Sl → Prop} (h : EvI K wi ρ ds) (k : PostA ds ρ) : EvIG K wi ρ PostA := fun O Y H σ I R q => h O Y H σ I R fun J H' s w => q J ds ρ H' k (I.mono s) (cut_mono s _) w
theorem ig_rng1 {ta : TA} {PostA : List Dt → List Sl → Prop} (h : EvAG K ta ρ fun ds ρ1 => ∃ n : Int, ds = [.int n] ∧ (-(2 ^ 62) ≤ n ∧ n < 2 ^ 62) ∧ PostA (nums 0 n.toNat) ρ1) : EvIG K (iRng1 ta) ρ PostA := fun O Y H σ I R q => h O Y H σ I _ fun ds ρ1 vs H1 ⟨n, e1, hn, hp⟩ I1 s1 hv => by
  subst e1
  obtain ⟨v, r, rfl, e2, e3⟩ := hv
  cases e2
  cases e3
  exact ⟨n, rfl, hn.1, hn.2, q _ _ ρ1 H1 hp I1 s1 wk_rng⟩
theorem ig_seqL {PostA : List Dt → List Sl → Prop} (h : EvG K te ρ fun d ρ1 => ∃ ds, d = .lst ds ∧ PostA ds ρ1) : EvIG K (iSeq K te) ρ PostA := fun O Y H σ I R q => .inl (h O Y H σ I _ fun d ρ1 v H1 ⟨ds, e1, hp⟩ I1 s hv => by
  subst e1
  obtain ⟨a, xs, rfl, h2, h3⟩ := hv
  exact ⟨a, rfl, ⟨xs, .inl ((Same.rd (cut_le _ _)).rd _ _ trivial h2)⟩, q _ ds ρ1 H1 hp I1 s (wk_list h2 h3)⟩)
theorem ei_seqL {ds : List Dt} (h : Ev K te ρ (.lst ds)) : EvI K (iSeq K te) ρ ds := fun O Y H σ I R q => .inl (ei_list h O Y H σ I R q)
theorem ei_seqT {ds : List Dt} (h : Ev K te ρ (.tup ds)) : EvI K (iSeq K te) ρ ds := fun O Y H σ I R q => .inr (ei_tup h O Y H σ I R q)
theorem eir_seqL {ds : List Dt} (h : EvR K te ρ (.lst ds)) : EvIR K (iSeq K te) ρ ds := fun O Y H σ I R q => .inl (eir_list h O Y H σ I R q)
/-! ### statements -/
theorem r_asgG (h : EvG K te ρ fun d ρ1 => P.nx (ρ1.set i (.dat d))) : Runs K (tAsg te (gName i)) ρ P := fun Y G σ H D ⟨O, I, g⟩ E =>
  h O Y H σ I _ fun d ρ1 v H' hp I' s hv => E.nx _ _ _ hp ⟨O, I'.put (s := .dat d) ⟨v, rfl, hv⟩ (fun _ _ z => by cases z), g.trans s⟩
theorem r_asgTgG (h : EvG K te ρ fun d ρ1 => ∃ sl ρ2, Tg K g sl d ρ1 ρ2 ∧ P.nx ρ2) : Runs K (tAsg te g) ρ P := fun Y G σ H D ⟨O, I, gg⟩ E =>
  h O Y H σ I _ fun d ρ1 v H' ⟨sl, ρ2, hg, hp⟩ I' s hv => hg O Y H' σ v I' hv _ fun σ' I'' _ _ => E.nx _ _ _ hp ⟨O, I'', gg.trans s⟩
theorem r_retG (h : EvG K te ρ fun d ρ1 => P.rt d ρ1) : Runs K (tRet te) ρ P := fun Y G σ H D ⟨O, I, g⟩ E =>
  h O Y H σ I _ fun d ρ1 v H' hp I' s hv => E.rt d ρ1 σ v H' hp ⟨O, I', g.trans s, hv⟩
theorem r_dropG (h : EvG K te ρ fun _ ρ1 => P.nx ρ1) : Runs K (tDrop te) ρ P := fun Y G σ H D ⟨O, I, g⟩ E =>
  h O Y H σ I _ fun d ρ1 v H' hp I' s hv => E.nx ρ1 σ H' hp ⟨O, I', g.trans s⟩
theorem r_ifG (h : EvTG K tt ρ fun b ρ1 => if b = true then Runs K t ρ1 P else Runs K u ρ1 P) : Runs K (tIfS tt t u) ρ P := fun Y G σ H D ⟨O, I, g⟩ E =>
  h O Y H σ I _ fun b ρ1 H' hp I' s => by
    cases b with
    | true =>
      show t D σ H'
      exact hp Y G σ H' D ⟨O, I', g.trans s⟩ E
    | false =>
      show u D σ H'
      exact hp Y G σ H' D ⟨O, I', g.trans s⟩ E
theorem r_parG {ta : TA} (h : EvAG K ta ρ fun ds ρ1 => ∃ d e, ds = [d, e] ∧ P.nx ((ρ1.set i (.dat d)).set j (.dat e))) : Runs K (tPar i j ta) ρ P := fun Y G σ H D ⟨O, I, g⟩ E =>
  h O Y H σ I _ fun ds ρ1 vs H' ⟨d, e, e0, hp⟩ I' s hv => by
    subst e0
    obtain ⟨v, r, e1, h1, w, r2, e2, h2, e3⟩ := hv
    have e3 : r2 = [] := e3
    subst e3
    subst e2
    subst e1
    exact ⟨v, w, rfl, E.nx _ _ _ hp ⟨O, (I'.put (s := .dat d) ⟨v, rfl, h1⟩ (fun _ _ z => by cases z)).put (s := .dat e) ⟨w, rfl, h2⟩ (fun _ _ z => by cases z), g.trans s⟩⟩
theorem cut_app2 {H H' : Hp} {O O' Y : List Addr} (e : Same (cut H O) (cut H' O')) : Same (cut H (O ++ Y)) (cut H' (O' ++ Y)) := fun b o q => by
  obtain ⟨h1, h2⟩ := cut_some.mp q
  have h3 : b ∉ O := fun z => h1 (List.mem_append_left _ z)
  obtain ⟨h4, h5⟩ := cut_some.mp (e b o (cut_some.mpr ⟨h3, h2⟩))
  refine cut_some.mpr ⟨fun z => ?_, h5⟩
  rcases List.mem_append.mp z with z | z
  · exact h4 z
  · exact h1 (List.mem_append_right _ z)
/-- for: what is walked is told, then an invariant -/
theorem r_forG {sl : List Nat} (h : EvIG K wi ρ fun ds ρ1 => ∃ Iv : Nat → List Sl → Prop, Iv 0 ρ1 ∧
    (∀ i d ρ2, ds[i]? = some d → Iv i ρ2 → ∃ ρ3, Tg K g sl d ρ2 ρ3 ∧ Runs K t ρ3 { nx := Iv (i + 1), ct := Iv (i + 1), bk := P.nx, rt := P.rt }) ∧ ∀ ρ2, Iv ds.length ρ2 → P.nx ρ2) : Runs K (tFor wi g t) ρ P := fun Y G σ H D ⟨O, I, gg⟩ E => by
  refine h O Y H σ I _ fun J ds ρ1 H1 ⟨Iv, h0, hs, hd⟩ I1 s1 w => ?_
  refine ⟨fun i m σ2 H2 => m = ds.length - i ∧ i ≤ ds.length ∧ ∃ ρ2, Iv i ρ2 ∧ ∃ O2, Env K O2 Y H2 ρ2 σ2 ∧ Same (cut H1 O) (cut H2 O2), ⟨ds.length, by omega, by omega, ρ1, h0, O, I1, Same.refl _⟩, fun i m σ2 H2 hW => ?_⟩
  obtain ⟨hm, hi, ρ2, hI, O2, I2, g2⟩ := hW
  obtain ⟨w1, w2, w3⟩ := w i H2 O2 (cut_app2 g2) I2.dom
  by_cases hlt : i < ds.length
  · refine .inr ⟨w1 hlt, fun σ3 H3 => ∃ ρ3, Iv (i + 1) ρ3 ∧ ∃ O3, Env K O3 Y H3 ρ3 σ3 ∧ Same (cut H1 O) (cut H3 O3), fun σ3 H3 ⟨ρ3, a1, O3, a2, a3⟩ => ⟨ds.length - (i + 1), by omega, rfl, hlt, ρ3, a1, O3, a2, a3⟩, fun x H3 hy => ?_⟩
    obtain ⟨s3, w4⟩ := w3 x H3 hy
    have hdd : ds[i]? = some ds[i] := List.getElem?_eq_getElem hlt
    obtain ⟨ρ3, tg, run⟩ := hs i ds[i] ρ2 hdd hI
    refine tg O2 Y H3 σ2 x (I2.mono s3) (w4 _ hdd) _ fun σ4 I4 _ _ => ?_
    have g4 : Same G (cut H3 O2) := (gg.trans s1).trans (g2.trans (cut_mono s3 _))
    refine run Y (cut H3 O2) σ4 H3 _ ⟨O2, I4, Same.refl _⟩ ⟨fun ρ5 σ5 H5 n5 ⟨O5, I5, k5⟩ => ?_, fun d5 ρ5 σ5 v5 H5 n5 ⟨O5, I5, k5, hv⟩ => ?_, fun ρ5 σ5 H5 n5 ⟨O5, I5, k5⟩ => ?_, fun ρ5 σ5 H5 n5 ⟨O5, I5, k5⟩ => ?_⟩
    · exact ⟨ρ5, n5, O5, I5, (g2.trans (cut_mono s3 _)).trans k5⟩
    · exact E.rt d5 ρ5 σ5 v5 H5 n5 ⟨O5, I5, g4.trans k5, hv⟩
    · exact E.nx ρ5 σ5 H5 n5 ⟨O5, I5, g4.trans k5⟩
    · exact ⟨ρ5, n5, O5, I5, (g2.trans (cut_mono s3 _)).trans k5⟩
  · have e : i = ds.length := by omega
    exact .inl ⟨w2 (by omega), E.nx ρ2 σ2 H2 (hd ρ2 (by rw [← e]; exact hI)) ⟨O2, I2, (gg.trans s1).trans g2⟩⟩
/-- xs[i] = e, xs an own list -/
theorem r_setL {p : Option Addr} {ds : List Dt} {k : Nat} {z : Int} (hi : ρ[i]? = some (.own p (.lst ds))) (h : Ev K te ρ d) (hz : Ev K tb ρ (.int z)) (hk : ixN ds.length z = some k) (q : P.nx (ρ.set i (.own p (.lst (ds.set k d))))) :
    Runs K (tAsg te (gSub (tVar i) tb rSetL)) ρ P := fun Y G σ H D ⟨O, I, g⟩ E => h O Y H σ I _ fun v H1 s1 hv => by
  have I1 := I.mono s1
  obtain ⟨x, hx, ho, hp⟩ := I1.own hi
  refine ⟨x, hx, hz O Y H1 σ I1 _ fun y H2 s2 hy => ?_⟩
  cases (show y = _ from hy)
  have I2 := I1.mono s2
  obtain ⟨a, xs, rfl, h2, hay, h3, h4⟩ := ho.mono s2
  refine ⟨a, xs, z, k, rfl, rfl, h3, by rw [h4.len]; exact hk, E.nx _ _ _ q ⟨O, ?_, ?_⟩⟩
  · refine I2.change hi hx h2 ⟨a, xs.set k v, rfl, h2, hay, upd_same, ?_⟩
    rw [cut_upd_in (List.mem_append_left _ h2)]
    exact h4.set k (hv.mono (cut_mono s2 _))
  · rw [cut_upd_in h2]
    exact g.trans (cut_mono (s1.trans s2) _)
theorem r_retOwn {p : Option Addr} (hi : ρ[i]? = some (.own p d)) (k : P.rt d (ρ.set i (.dat d))) : Runs K (tRet (tVar i)) ρ P := r_freeze i hi (r_ret (ev_var (List.getElem?_set_self (List.getElem?_eq_some_iff.mp hi).1)) k)
end
/-! ### a def from its body's run, one of several answers -/
section
variable {P : Program} {w : World} {K : PySem.W.Frag} {mg : Str → Option Value} {base : Heap} {A : Type} {args : A → List Dt} {dom : A → Prop} {R : A → Dt → Prop} {kind : Dt → Prop}
abbrev FnOf (K : PySem.W.Frag) (x qual : Str) (st : Stmt) (f : Addr) (fd : FuncData) : Prop := FunD K x qual (defArgs st) (defBody st) (defScope st) [] [] f fd
theorem fn_g {x qual : Str} {st : Stmt} {f : Addr} {fd : FuncData} {N ps : List Str} {k : Nat} (F : FnOf K x qual st f fd) (S : FnScope N ps (defScope st)) (hl : ∀ x, (args x).length = ps.length) (t : TS)
    (hb : ∀ (cdv : Value) (A : Around) (outer : List PySem.Env) (s : Shared) (H : Hp) (E : XK), Room k (A.deeper (PyProof.Rows.envOfC qual (defScope st) s.heap.objs.size f cdv)) → PSs (cxOf CX0 P w K mg base N qual (defScope st) f cdv A outer s H E).nox (defBody st) t)
    (hn : ps.length ≤ N.length) (run : ∀ x, dom x → Runs K t ((args x).map .dat ++ List.replicate (N.length - ps.length) .un) { nx := fun _ => R x .non, rt := fun d _ => R x d }) : FnOk P w K mg base CX0 (k + 1) f fd ps (spG K args dom R) := by
  refine FunD.ok F S (fun vs H Q E h => ?_) (fun cdv A outer s H vs Q E hr h => ⟨t, (hb cdv A outer s H E hr).nox, ?_⟩)
  · obtain ⟨z, Y, _, h1, _⟩ := h
    rw [h1.len, hl]
  · obtain ⟨z, Y, hY, h1, hd, q⟩ := h
    refine run z hd Y H _ H _ ⟨[], env_start hY h1 (by rw [hl]; omega), by rw [cut_nil]; exact Same.refl _⟩ ⟨fun ρ σ H' hx ⟨O, I, g⟩ => ?_, fun d ρ σ v H' hx ⟨O, I, g, hv⟩ => ?_, fun ρ σ H' hx => False.elim hx, fun ρ σ H' hx => False.elim hx⟩
    · exact q .non .non H' hx (g.trans (cut_le _ _)) rfl
    · exact q d v H' hx (g.trans (cut_le _ _)) (hv.mono (cut_more fun b hb => List.mem_append_right _ hb))
theorem fn_f {res : A → Dt} {x qual : Str} {st : Stmt} {f : Addr} {fd : FuncData} {N ps : List Str} {k : Nat} (F : FnOf K x qual st f fd) (S : FnScope N ps (defScope st)) (hl : ∀ x, (args x).length = ps.length) (t : TS)
    (hb : ∀ (cdv : Value) (A : Around) (outer : List PySem.Env) (s : Shared) (H : Hp) (E : XK), Room k (A.deeper (PyProof.Rows.envOfC qual (defScope st) s.heap.objs.size f cdv)) → PSs (cxOf CX0 P w K mg base N qual (defScope st) f cdv A outer s H E).nox (defBody st) t)
    (hn : ps.length ≤ N.length) (run : ∀ x, dom x → Runs K t ((args x).map .dat ++ List.replicate (N.length - ps.length) .un) { nx := fun _ => res x = .non, rt := fun d _ => d = res x }) : FnOk P w K mg base CX0 (k + 1) f fd ps (spD K args dom res) :=
  (fn_g (R := fun x d => d = res x) F S hl t hb hn fun x hx => fun Y G σ H D S E => run x hx Y G σ H D S ⟨fun ρ σ H h s => E.nx ρ σ H (show Dt.non = res x from (show res x = .non from h).symm) s, E.rt, fun ρ σ H h s => False.elim h, fun ρ σ H h s => False.elim h⟩).imp fun vs H Q E h => by
    obtain ⟨x, Y, h1, h2, h3, h4⟩ := h
    exact ⟨x, Y, h1, h2, h3, fun d v H' e s hv => h4 v H' s (by rw [← (show d = res x from e)]; exact hv)⟩
theorem fn_pg {x qual : Str} {st : Stmt} {f : Addr} {fd : FuncData} {N : List Str} {p0 : Str} {ps : List Str} {k : Nat} (F : FnOf K x qual st f fd) (S : FnScope N (p0 :: ps) (defScope st)) (hl : ∀ x, (args x).length = ps.length) (t : TS)
    (hb : ∀ (cdv : Value) (A : Around) (outer : List PySem.Env) (s : Shared) (H : Hp) (E : XK), Room k (A.deeper (PyProof.Rows.envOfC qual (defScope st) s.heap.objs.size f cdv)) → PSs (cxOf CX0 P w K mg base N qual (defScope st) f cdv A outer s H E).nox (defBody st) t)
    (hn : (p0 :: ps).length ≤ N.length) (run : ∀ x a d0, dom x → kind d0 → Runs K t (.own (some a) d0 :: ((args x).map .dat ++ List.replicate (N.length - (p0 :: ps).length) .un))
      { nx := fun ρ' => R x .non ∧ ∃ d1, kind d1 ∧ ρ'[0]? = some (.own (some a) d1), rt := fun d ρ' => R x d ∧ ∃ d1, kind d1 ∧ ρ'[0]? = some (.own (some a) d1) }) : FnOk P w K mg base CX0 (k + 1) f fd (p0 :: ps) (spPG K kind args dom R) := by
  refine FunD.ok F S (fun vs H Q E h => ?_) (fun cdv A outer s H vs Q E hr h => ⟨t, (hb cdv A outer s H E hr).nox, ?_⟩)
  · obtain ⟨z, a, r, Y, d0, e0, _, _, _, h1, _⟩ := h
    rw [e0, List.length_cons, h1.len, hl, List.length_cons]
  · obtain ⟨z, a, r, Y, d0, rfl, hY, ho, hk, h1, hd, q⟩ := h
    have hn' : ps.length + 1 ≤ N.length := hn
    have fin : ∀ (O : List Addr) (ρ : List Sl) (σ : L2.St) (H' : Hp) (d1 : Dt), ρ[0]? = some (.own (some a) d1) → Env K O Y H' ρ σ → Same (cut H [a]) (cut H' O) → Same (cut H [a]) (cut H' [a]) ∧ OwnAt K [a] Y H' d1 (.ref a) ∧ Same (cut H' (O ++ Y)) (cut H' (a :: Y)) := fun O ρ σ H' d1 h0 I g => by
      obtain ⟨v, g1, g2, g3⟩ := I.own h0
      have ev := g3 a rfl
      subst ev
      obtain ⟨_, hay, hao⟩ := own_some g2
      have sub : ∀ b, b ∈ [a] ++ Y → b ∈ O ++ Y := fun b hb => by
        rcases List.mem_append.mp hb with z | z
        · rw [List.mem_singleton.mp z]; exact List.mem_append_left _ hao
        · exact List.mem_append_right _ z
      refine ⟨fun b o hb => ?_, own_in g2 (by simp) hay sub, cut_more sub⟩
      obtain ⟨k1, _⟩ := cut_some.mp hb
      exact cut_some.mpr ⟨k1, (cut_some.mp (g b o hb)).2⟩
    refine run z a d0 hd hk Y (cut H [a]) _ H _ ⟨[a], env_startP hY ho h1 (by rw [hl, List.length_cons]; omega), Same.refl _⟩ ⟨fun ρ σ H' hx ⟨O, I, g⟩ => ?_, fun d ρ σ v H' hx ⟨O, I, g, hv⟩ => ?_, fun ρ σ H' hx => False.elim hx, fun ρ σ H' hx => False.elim hx⟩
    · obtain ⟨hx, d1, hk1, h0⟩ := hx
      obtain ⟨f1, f2, f3⟩ := fin O ρ σ H' d1 h0 I g
      exact q .non d1 .non H' hx hk1 f1 f2 rfl
    · obtain ⟨hx, d1, hk1, h0⟩ := hx
      obtain ⟨f1, f2, f3⟩ := fin O ρ σ H' d1 h0 I g
      exact q d d1 v H' hx hk1 f1 f2 (hv.mono f3)
end
end DL
namespace DL
open PySem PySem.Spec L2
/-! ### names of the top -/
section
variable {X : Cx}
theorem pe_gstr {x z : Str} {pos : Pos} (h : ∃ t, X.mg x = some (.str z t)) (hg : Gl X x) (hd : (x == ("__debug__" : Str)) = false := by decide) : PE X (.Name x pos) (tC (.str z)) := ⟨fun pn st σ H Q inv hyp => by
  obtain ⟨t, ht⟩ := h
  exact (pe_glob (v := .str z) hg ht ⟨t, rfl⟩ hd).run pn st σ H Q inv hyp⟩
theorem pe_gint {x : Str} {z : Int} {pos : Pos} (h : ∃ t, X.mg x = some (.int z t)) (hg : Gl X x) (hd : (x == ("__debug__" : Str)) = false := by decide) : PE X (.Name x pos) (tC (.int z)) := ⟨fun pn st σ H Q inv hyp => by
  obtain ⟨t, ht⟩ := h
  exact (pe_glob (v := .int z) hg ht ⟨t, rfl⟩ hd).run pn st σ H Q inv hyp⟩
end
/-! ### kinds of data -/
def isIntD : Dt → Bool
  | .int _ => true
  | _ => false
def isStrD : Dt → Bool
  | .str _ => true
  | _ => false
def isBlD : Dt → Bool
  | .bl _ => true
  | _ => false
def isTupD : Dt → Bool
  | .tup _ => true
  | _ => false
def isLstD : Dt → Bool
  | .lst _ => true
  | _ => false
theorem kit_int {d : Dt} (h : plainD d = true) : kitB (tyD d) "int" = some (isIntD d || isBlD d) := by
  cases d <;> first | (cases h; done) | (simp only [tyD, isIntD, isStrD, isBlD, isTupD, isLstD]; decide +kernel)
theorem kit_bool {d : Dt} (h : plainD d = true) : kitB (tyD d) "bool" = some (isBlD d) := by
  cases d <;> first | (cases h; done) | (simp only [tyD, isIntD, isStrD, isBlD, isTupD, isLstD]; decide +kernel)
theorem kit_str {d : Dt} (h : plainD d = true) : kitB (tyD d) "str" = some (isStrD d) := by
  cases d <;> first | (cases h; done) | (simp only [tyD, isIntD, isStrD, isBlD, isTupD, isLstD]; decide +kernel)
theorem kit_tuple {d : Dt} (h : plainD d = true) : kitB (tyD d) "tuple" = some (isTupD d) := by
  cases d <;> first | (cases h; done) | (simp only [tyD, isIntD, isStrD, isBlD, isTupD, isLstD]; decide +kernel)
theorem kit_list {d : Dt} (h : plainD d = true) : kitB (tyD d) "list" = some (isLstD d) := by
  cases d <;> first | (cases h; done) | (simp only [tyD, isIntD, isStrD, isBlD, isTupD, isLstD]; decide +kernel)
/-! ### events, traces -/
inductive Nm | acq | rel | sha | uns | rd | wr | frk | jn
  deriving DecidableEq
def Nm.s : Nm → Str
  | .acq => "acquire" | .rel => "release" | .sha => "share" | .uns => "unshare" | .rd => "read" | .wr => "write" | .frk => "fork" | .jn => "join"
structure Evt where
  th : Int
  nm : Nm
  tg : Int
  deriving DecidableEq
abbrev Tr := List Evt
def encE (e : Evt) : Dt := .tup [.int e.th, .str e.nm.s, .int e.tg]
def encT (t : Tr) : Dt := .tup (t.map encE)
/-- an event's numbers are from 0 on -/
def Evt.ok (e : Evt) : Prop := 0 ≤ e.th ∧ 0 ≤ e.tg
theorem Nm.inj {a b : Nm} (h : a.s = b.s) : a = b := by
  revert h
  cases a <;> cases b <;> first | (intro; rfl) | (intro h; exact absurd h (by decide +kernel))
theorem Nm.dec (a b : Nm) : decide (a.s = b.s) = decide (a = b) := decide_eq_decide.mpr ⟨Nm.inj, fun h => by rw [h]⟩
end DL
namespace DL
open PySem PySem.Spec L2
def rIxK (kd : Addr → Str → V → Prop) : R2 := fun x y H Q => ∃ p z v, x = .ref p ∧ y = .str z ∧ kd p z v ∧ Q v H
theorem ix_kd {X : Cx} {kd : Addr → Str → V → Prop} (h : ∀ p z v, kd p z v → KDct X.K X.w p z v) : IxR X (rIxK kd) := fun value slice pn st σ H x y v u Q inv rx ry hyp hs => by
  obtain ⟨p, z, r, e1, e2, k, q⟩ := hyp
  exact ix_kdict value slice pn st σ H x y v u Q inv rx ry ⟨p, z, r, e1, e2, h p z r k, q⟩ hs
section
variable {K : PySem.W.Frag} {ρ : List Sl} {ta tb : TE}
theorem ev_kt {a : Addr} {ds : List Dt} (h : ∃ vs, KTup K a vs ∧ ∀ H, HasL K H ds vs) : Ev K (tC (.ref a)) ρ (.kt ds) := fun O Y H σ I Q q => by
  obtain ⟨vs, h1, h2⟩ := h
  exact q _ H (Same.refl H) ⟨a, vs, rfl, h1, h2 _⟩
/-- an item of a written dict: its value a text -/
theorem ev_kd {kd : Addr → Str → V → Prop} {a : Addr} {z s : Str} (hb : Ev K tb ρ (.str z)) (h : kd a z (.str s)) : Ev K (tOp (rIxK kd) (tC (.ref a)) tb) ρ (.str s) := fun O Y H σ I Q q =>
  hb O Y H σ I _ fun y H1 s1 hy => ⟨a, z, .str s, rfl, hy, h, q _ H1 s1 rfl⟩
end
end DL
namespace DL
open PySem PySem.Spec L2
section
variable {K : PySem.W.Frag} {ρ ρ1 : List Sl} {P : Po} {te ta tb : TE} {c : TT} {t u : TS} {d : Dt} {i j : Nat} {wi : TI} {g : TG}
theorem q_when {b : Bool} (h : EvT K c ρ b) (h1 : b = true → Runs K t ρ { P with nx := fun ρ' => Runs K u ρ' P }) (h2 : b = false → Runs K u ρ P) : Runs K (tSeq (tIfS c t tNext) u) ρ P :=
  r_seq (r_if h h1 fun e => r_next (h2 e))
theorem q_set (h : Ev K te ρ d) (k : Runs K u (ρ.set i (.dat d)) P) : Runs K (tSeq (tAsg te (gName i)) u) ρ P := r_seq (r_asg h k)
theorem q_setN (h : EvN K te ρ d) (k : Runs K u (ρ.set i (.own none d)) P) : Runs K (tSeq (tAsg te (gName i)) u) ρ P := r_seq (r_asgN h k)
theorem q_setG (h : EvG K te ρ fun d ρ1 => Runs K u (ρ1.set i (.dat d)) P) : Runs K (tSeq (tAsg te (gName i)) u) ρ P := r_seq (r_asgG h)
theorem q_setTg {sl : List Nat} (h : Ev K te ρ d) (hg : Tg K g sl d ρ ρ1) (k : Runs K u ρ1 P) : Runs K (tSeq (tAsg te g) u) ρ P := r_seq (r_asgTg h hg k)
theorem q_par {e : Dt} {ta : TA} (h : EvA K ta ρ [d, e]) (k : Runs K u ((ρ.set i (.dat d)).set j (.dat e)) P) : Runs K (tSeq (tPar i j ta) u) ρ P := r_seq (r_par h k)
theorem q_drop (h : Ev K te ρ d) (k : Runs K u ρ P) : Runs K (tSeq (tDrop te) u) ρ P := r_seq (r_drop h k)
theorem q_app {p : Option Addr} {ds : List Dt} (hi : ρ[i]? = some (.own p (.lst ds))) (h : Ev K te ρ d) (hz : ds.length < sizeLine) (k : Runs K u (ρ.set i (.own p (.lst (ds ++ [d])))) P) :
    Runs K (tSeq (tDrop (tBM K "list" rAppend (tVar i) (tCons te tNil))) u) ρ P := r_seq (r_app hi h hz k)
theorem q_for {ds : List Dt} {sl : List Nat} (h : EvI K wi ρ ds) (Iv : Nat → List Sl → Prop) (h0 : Iv 0 ρ)
    (hs : ∀ i d ρ2, ds[i]? = some d → Iv i ρ2 → ∃ ρ3, Tg K g sl d ρ2 ρ3 ∧ Runs K t ρ3 { nx := Iv (i + 1), ct := Iv (i + 1), bk := fun ρ' => Runs K u ρ' P, rt := P.rt })
    (hd : ∀ ρ2, Iv ds.length ρ2 → Runs K u ρ2 P) : Runs K (tSeq (tFor wi g t) u) ρ P := r_seq (r_for h Iv h0 hs hd)
end
end DL
namespace DL
open PySem PySem.Spec L2
/-! ### instances that are read -/
section
variable {K : PySem.W.Frag} {ρ : List Sl} {te ta tb : TE} {d : Dt} {C : Addr} {ns : List Str} {ds : List Dt}
theorem zip_look {G : Hp} {f : Str} : ∀ {ns : List Str} {ds : List Dt} {xs : List V}, HasL K G ds xs → (match (ns.zip ds).lookup f with
    | some d => ∃ v, (ns.zip xs).lookup f = some v ∧ Has K G d v
    | none => (ns.zip xs).lookup f = none)
  | [], _, _, _ => rfl
  | _ :: _, [], _, h => by
    have h : _ = [] := h
    subst h
    rfl
  | n :: ns, e :: ds, _, ⟨v, r, h1, h2, h3⟩ => by
    subst h1
    rw [List.zip_cons_cons, List.zip_cons_cons, List.lookup_cons, List.lookup_cons]
    cases f == n with
    | true => exact ⟨v, rfl, h2⟩
    | false => exact zip_look h3
theorem ev_fld {f : Str} (h : Ev K te ρ (.ins C ns ds)) (c : Cls K C) (n : NoAttr K C f) (hl : (ns.zip ds).lookup f = some d) : Ev K (tFld K te f) ρ d := fun O Y H σ I Q q => h O Y H σ I _ fun v H1 s hv => by
  obtain ⟨a, dx, xs, rfl, h1, h2, h3⟩ := hv
  have hz := zip_look (f := f) (ns := ns) h3
  rw [hl] at hz
  obtain ⟨v, g1, g2⟩ := hz
  exact ⟨a, C, dx, _, v, rfl, cut_le _ _ _ _ h1, c, n, g1, q v H1 s g2⟩
theorem ev_meth {A : Type} {args : A → List Dt} {dom : A → Prop} {res : A → Dt} {m : Str} {t : TA} {E : XK} {es : List Dt} (x : A) (h : Ev K ta ρ (.ins C ns ds)) (hn : (ns.zip ds).lookup m = none) (ha : EvA K t ρ es) (he : .ins C ns ds :: es = args x) (hd : dom x) :
    Ev K (tMeth C m (spD K args dom res) [] E ta t) ρ (res x) := fun O Y H σ I Q q => h O Y H σ I _ fun v H1 s1 hv => by
  obtain ⟨a, dx, xs, rfl, h1, h2, h3⟩ := id hv
  have hz := zip_look (f := m) (ns := ns) h3
  rw [hn] at hz
  refine ⟨a, dx, _, rfl, cut_le _ _ _ _ h1, hz, ha O Y H1 σ (I.mono s1) _ fun vs H2 s2 hvs => ?_⟩
  refine ⟨x, O ++ Y, dom_mono I.dom (s1.trans s2), ?_, hd, fun w H' s hr => q w H' ((s1.trans s2).trans s) hr⟩
  rw [List.append_nil, ← he]
  exact ⟨_, vs, rfl, hv.mono (cut_mono s2 _), hvs⟩
/-- d.get(k, x) -/
theorem ev_get2 {k : Key} {ks : List Key} {f : Dt} {tx : TE} (ha : EvR K ta ρ (.dk ks ds)) (hb : Ev K tb ρ (kD k)) (hx : Ev K tx ρ f) : Ev K (tDGet2 ta tb tx) ρ ((dget ks ds k).getD f) := fun O Y H σ I Q q =>
  ha O Y H σ I _ fun x H1 s1 hx1 => by
    obtain ⟨a, xs, rfl, e1, e2, e3⟩ := hx1.dk
    refine ⟨a, rfl, .inl ⟨_, e1⟩, hb O Y H1 σ (I.mono s1) _ fun y H2 s2 hy => hx O Y H2 σ (I.mono (s1.trans s2)) _ fun z H3 s3 hz => ?_⟩
    have ey := HasR.key (k := k) (.inl hy)
    subst ey
    have hv := valV_has (k := k) e2 (e3.mono (cut_mono (s2.trans s3) _))
    refine ⟨_, .inl ⟨_, k, (Same.rd (s2.trans s3)).rd _ _ trivial e1, rfl, rfl⟩, q _ H3 ((s1.trans s2).trans s3) ?_⟩
    cases q2 : dget ks ds k with
    | none => rw [q2] at hv; rw [hv]; exact hz
    | some d => rw [q2] at hv; obtain ⟨v, e4, e5⟩ := hv; rw [e4]; exact e5
end
/-! ### methods as their callers see them -/
structure MDef (P : Program) (w : World) (K : PySem.W.Frag) (mg : Str → Option Value) (base : Heap) (C : Addr) (m : Str) (ps : List Str) (k : Nat) (sp : Sp) : Prop where
  ex : ∃ (f : Addr) (fd : FuncData), Meth K C m f ∧ Binds K fd ps [] ∧ FnOk P w K mg base CX0 k f fd ps sp
theorem pe_methD {X : Cx} {C : Addr} {m : Str} {ps : List Str} {k j : Nat} {sp : Sp} {apos pos : Pos} {o e : Expr} {es : List Expr} {ta : TE} {t : TA} {pl : Sem Bool} (he : PE X o ta) (c : Cls X.K C) (D : MDef X.prog X.w X.K X.mg X.base C m ps k sp) (hr : Room j X.A) (hk : k ≤ j) (ha : PA X (e :: es) t)
    (hst : starEach (e :: es) X.env = (false, eval e X.env) :: starEach es X.env := by rfl) (hpl : (backTo pos (starEach es X.env)).any (·.1) = false := by rfl)
    (ht : eval (.Call (.Attribute o m apos) (e :: es) [] pos) X.env = (do
      let ov ← eval o X.env
      standAt apos.atName
      let (f, first) ← holding [ov] (getMethod ov m pl)
      callWith pos f first (backTo pos (starEach (e :: es) X.env)) (backToKw pos (keywordEach [] X.env))) := by rfl) :
    PE X (.Call (.Attribute o m apos) (e :: es) [] pos) (tMeth C m sp [] E0 ta t) := by
  refine ⟨fun pn st σ H Q inv hyp => ?_⟩
  obtain ⟨f, fd, h1, h3, h4⟩ := D.ex
  exact (pe_meth he c h1 h4 (hr.mono hk) h3 .nil pass0 ha hst hpl ht).run pn st σ H Q inv hyp
end DL
namespace DL
open PySem PySem.Spec L2
/-! ### dicts with whole-number keys, as lists of pairs -/
def alook {α : Type} (l : List (Int × α)) (k : Int) : Option α := (l.find? fun p => decide (p.1 = k)).map (·.2)
def aput {α : Type} (l : List (Int × α)) (k : Int) (v : α) : List (Int × α) := if l.any (fun p => decide (p.1 = k)) = true then l.map fun p => if p.1 = k then (p.1, v) else p else l ++ [(k, v)]
def adrop {α : Type} (l : List (Int × α)) (k : Int) : List (Int × α) := l.filter fun p => decide (p.1 ≠ k)
def dkI {α : Type} (f : α → Dt) (l : List (Int × α)) : Dt := .dk (l.map fun p => .inl p.1) (l.map fun p => f p.2)
theorem dget_I {α : Type} (f : α → Dt) (k : Int) : ∀ l : List (Int × α), dget (l.map fun p => (Sum.inl p.1 : Key)) (l.map fun p => f p.2) (.inl k) = (alook l k).map f
  | [] => rfl
  | p :: l => by
    have ih := dget_I f k l
    unfold dget alook at *
    rw [List.map_cons, List.map_cons, List.findIdx?_cons, List.find?_cons]
    by_cases e : p.1 = k
    · simp [e]
    · have e' : ¬ ((Sum.inl p.1 : Key) = Sum.inl k) := fun z => e (Sum.inl.inj z)
      simp only [e, e', decide_false]
      rw [← ih]
      cases (l.map fun p => (Sum.inl p.1 : Key)).findIdx? fun z => decide (z = Sum.inl k) <;> simp
/-- the dict's pairs -/
def kvI (l : List (Int × V)) : List (Key × V) := l.map fun p => (.inl p.1, p.2)
theorem zip_kvI {α : Type} : ∀ (l : List (Int × α)) (xs : List V), l.length = xs.length → (l.map fun p => (Sum.inl p.1 : Key)).zip xs = kvI ((l.map (·.1)).zip xs)
  | [], _, _ => rfl
  | _ :: _, [], h => by simp at h
  | p :: l, x :: xs, h => by
    have ih := zip_kvI l xs (by simpa using h)
    rw [List.map_cons, List.zip_cons_cons, ih]
    rfl
theorem putK_kvI (l : List (Int × V)) (k : Int) (v : V) : putK (kvI l) (.inl k) v = kvI (aput l k v) := by
  have ha : ((kvI l).any fun kv => decide (kv.1 = Sum.inl k)) = l.any fun p => decide (p.1 = k) := by
    unfold kvI
    rw [List.any_map]
    congr 1
    funext p
    exact decide_eq_decide.mpr ⟨fun z => Sum.inl.inj z, fun z => congrArg Sum.inl z⟩
  unfold putK aput
  rw [ha]
  by_cases h : (l.any fun p => decide (p.1 = k)) = true
  · rw [if_pos h, if_pos h]
    unfold kvI
    rw [List.map_map, List.map_map]
    apply List.map_congr_left
    intro p _
    show (if (Sum.inl p.1 : Key) = Sum.inl k then ((Sum.inl p.1 : Key), v) else (Sum.inl p.1, p.2)) = _
    by_cases e : p.1 = k
    · have e' : (Sum.inl p.1 : Key) = Sum.inl k := congrArg Sum.inl e
      simp [e]
    · have e' : ¬ ((Sum.inl p.1 : Key) = Sum.inl k) := fun z => e (Sum.inl.inj z)
      simp [e]
  · rw [if_neg h, if_neg h]
    unfold kvI
    rw [List.map_append]
    rfl
theorem dropK_kvI (l : List (Int × V)) (k : Int) : dropK (kvI l) (.inl k) = kvI (adrop l k) := by
  unfold dropK adrop kvI
  rw [List.filter_map]
  congr 1
  apply List.filter_congr
  intro p _
  exact decide_eq_decide.mpr (not_congr ⟨fun z => Sum.inl.inj z, fun z => congrArg Sum.inl z⟩)
theorem valV_kvI (k : Int) : ∀ l : List (Int × V), valV (kvI l) (.inl k) = alook l k
  | [] => rfl
  | p :: l => by
    have ih := valV_kvI k l
    by_cases e : p.1 = k
    · have e' : ((Sum.inl p.1, p.2) : Key × V).1 = Sum.inl k := congrArg Sum.inl e
      show valV ((Sum.inl p.1, p.2) :: kvI l) (.inl k) = _
      rw [valV_pos e']
      simp [alook, List.find?_cons, e]
    · have e' : ¬ ((Sum.inl p.1, p.2) : Key × V).1 = Sum.inl k := fun z => e (Sum.inl.inj z)
      show valV ((Sum.inl p.1, p.2) :: kvI l) (.inl k) = _
      rw [valV_neg e', ih]
      simp [alook, List.find?_cons, e]
theorem kvI_len (l : List (Int × V)) : (kvI l).length = l.length := by unfold kvI; rw [List.length_map]
theorem aput_len {α : Type} (l : List (Int × α)) (k : Int) (v : α) : (aput l k v).length ≤ l.length + 1 := by
  unfold aput
  split
  · rw [List.length_map]; omega
  · rw [List.length_append, List.length_singleton]; omega
/-- pairs told by data -/
inductive AHas (K : PySem.W.Frag) (H : Hp) {α : Type} (f : α → Dt) : List (Int × α) → List (Int × V) → Prop
  | nil : AHas K H f [] []
  | cons {k : Int} {x : α} {v : V} {l : List (Int × α)} {r : List (Int × V)} : Has K H (f x) v → AHas K H f l r → AHas K H f ((k, x) :: l) ((k, v) :: r)
section
variable {K : PySem.W.Frag} {H H' : Hp} {α : Type} {f : α → Dt}
theorem AHas.len {l : List (Int × α)} {r : List (Int × V)} (h : AHas K H f l r) : r.length = l.length := by
  induction h with
  | nil => rfl
  | cons _ _ ih => rw [List.length_cons, List.length_cons, ih]
theorem AHas.imp {l : List (Int × α)} {r : List (Int × V)} (h : AHas K H f l r) (k : ∀ x v, Has K H (f x) v → Has K H' (f x) v) : AHas K H' f l r := by
  induction h with
  | nil => exact .nil
  | cons h1 _ ih => exact .cons (k _ _ h1) ih
theorem AHas.hasL {l : List (Int × α)} {r : List (Int × V)} (h : AHas K H f l r) : HasL K H (l.map fun p => f p.2) (r.map (·.2)) := by
  induction h with
  | nil => rfl
  | cons h1 _ ih => exact ⟨_, _, rfl, h1, ih⟩
theorem AHas.zip {l : List (Int × α)} {r : List (Int × V)} (h : AHas K H f l r) : (l.map fun p => (Sum.inl p.1 : Key)).zip (r.map (·.2)) = kvI r := by
  induction h with
  | nil => rfl
  | cons h1 _ ih => rw [List.map_cons, List.map_cons, List.zip_cons_cons, ih]; rfl
theorem AHas.any {l : List (Int × α)} {r : List (Int × V)} (h : AHas K H f l r) (k : Int) : (r.any fun p => decide (p.1 = k)) = l.any fun p => decide (p.1 = k) := by
  induction h with
  | nil => rfl
  | cons h1 _ ih => rw [List.any_cons, List.any_cons, ih]
theorem AHas.snoc {l : List (Int × α)} {r : List (Int × V)} (h : AHas K H f l r) {k : Int} {x : α} {v : V} (hv : Has K H (f x) v) : AHas K H f (l ++ [(k, x)]) (r ++ [(k, v)]) := by
  induction h with
  | nil => exact .cons hv .nil
  | cons h1 _ ih => exact .cons h1 ih
theorem AHas.repl {l : List (Int × α)} {r : List (Int × V)} (h : AHas K H f l r) {k : Int} {x : α} {v : V} (hv : Has K H (f x) v) : AHas K H f (l.map fun p => if p.1 = k then (p.1, x) else p) (r.map fun p => if p.1 = k then (p.1, v) else p) := by
  induction h with
  | nil => exact .nil
  | @cons k0 x0 v0 l r h1 _ ih =>
    rw [List.map_cons, List.map_cons]
    by_cases e : k0 = k
    · simp only [e, if_true]
      exact .cons hv ih
    · simp only [e, if_false]
      exact .cons h1 ih
theorem AHas.put {l : List (Int × α)} {r : List (Int × V)} (h : AHas K H f l r) {k : Int} {x : α} {v : V} (hv : Has K H (f x) v) : AHas K H f (aput l k x) (aput r k v) := by
  unfold aput
  rw [h.any k]
  by_cases e : (l.any fun p => decide (p.1 = k)) = true
  · rw [if_pos e, if_pos e]; exact h.repl hv
  · rw [if_neg e, if_neg e]; exact h.snoc hv
theorem AHas.drop {l : List (Int × α)} {r : List (Int × V)} (h : AHas K H f l r) (k : Int) : AHas K H f (adrop l k) (adrop r k) := by
  unfold adrop
  induction h with
  | nil => exact .nil
  | @cons k0 x0 v0 l r h1 _ ih =>
    rw [List.filter_cons, List.filter_cons]
    by_cases e : k0 = k
    · simp only [e, ne_eq, not_true, decide_false]
      exact ih
    · have e' : decide (k0 ≠ k) = true := decide_eq_true e
      simp only [e', if_true]
      exact .cons h1 ih
theorem AHas.look {l : List (Int × α)} {r : List (Int × V)} (h : AHas K H f l r) (k : Int) : (match alook l k with
    | some x => ∃ v, alook r k = some v ∧ Has K H (f x) v
    | none => alook r k = none) := by
  induction h with
  | nil => rfl
  | @cons k0 x0 v0 l r h1 _ ih =>
    unfold alook at *
    rw [List.find?_cons, List.find?_cons]
    by_cases e : k0 = k
    · simp only [e, decide_true]
      exact ⟨v0, rfl, h1⟩
    · simp only [e, decide_false]
      exact ih
/-- a dict that is changed, at its address -/
theorem AHas.dk {l : List (Int × α)} {r : List (Int × V)} {a : Addr} (h : AHas K H f l r) (ha : H a = some (.dK (kvI r))) : Has K H (dkI f l) (.ref a) := by
  refine ⟨a, r.map (·.2), rfl, .inl ?_, by rw [List.length_map, List.length_map, h.len], h.hasL⟩
  rw [h.zip]
  exact ha
end
/-! ### data of tuples alone -/
mutual
def onlyT : Dt → Bool
  | .non => true
  | .bl _ => true
  | .int _ => true
  | .str _ => true
  | .tup ds => onlyTs ds
  | _ => false
def onlyTs : List Dt → Bool
  | [] => true
  | d :: ds => onlyT d && onlyTs ds
end
section
variable {K : PySem.W.Frag} {H H' : Hp}
/-! what holds tuples alone stays, whatever else changes -/
mutual
theorem Has.tups (e : ∀ a xs, H a = some (.tup xs) → H' a = some (.tup xs)) : ∀ {d : Dt} {v : V}, onlyT d = true → Has K H d v → Has K H' d v
  | .non, _, _, h => h
  | .bl _, _, _, h => h
  | .int _, _, _, h => h
  | .str _, _, _, h => h
  | .tup _, _, o, ⟨a, xs, h1, h2, h3⟩ => ⟨a, xs, h1, e _ _ h2, HasL.tups e (by simpa [onlyT] using o) h3⟩
  | .lst _, _, o, _ => by simp [onlyT] at o
  | .dk _ _, _, o, _ => by simp [onlyT] at o
  | .dt _ _, _, o, _ => by simp [onlyT] at o
  | .kt ds, _, o, _ => by simp [onlyT] at o
  | .kl ds, _, o, _ => by simp [onlyT] at o
  | .val _, _, o, _ => by simp [onlyT] at o
  | .ins _ _ _, _, o, _ => by simp [onlyT] at o
  | .on _ _, _, o, _ => by simp [onlyT] at o
theorem HasL.tups (e : ∀ a xs, H a = some (.tup xs) → H' a = some (.tup xs)) : ∀ {d : List Dt} {v : List V}, onlyTs d = true → HasL K H d v → HasL K H' d v
  | [], _, _, h => h
  | _ :: _, _, o, ⟨v, r, h1, h2, h3⟩ => by
    rw [onlyTs, Bool.and_eq_true] at o
    exact ⟨v, r, h1, Has.tups e o.1 h2, HasL.tups e o.2 h3⟩
end
end
end DL
namespace DL
open PySem PySem.Spec L2
/-- a class that is made -/
structure CDef (P : Program) (w : World) (K : PySem.W.Frag) (mg : Str → Option Value) (base : Heap) (C : Addr) (x : Str) (ps : List Str) (k : Nat) (sp : Sp) : Prop where
  ex : ∃ (f : Addr) (fd : FuncData), Mk K C f ∧ mg x = some (.ref C) ∧ Binds K fd ps [] ∧ FnOk P w K mg base CX0 k f fd ps sp
theorem pe_makeD {X : Cx} {C : Addr} {x : Str} {ps : List Str} {k j : Nat} {sp : Sp} {p pos : Pos} {e : Expr} {es : List Expr} {t : TA} (D : CDef X.prog X.w X.K X.mg X.base C x ps k sp) (hr : Room j X.A) (hk : k + 1 ≤ j) (hg : Gl X x) (ha : PA X (e :: es) t)
    (hdb : (x == ("__debug__" : Str)) = false := by decide) (he : starEach (e :: es) X.env = (false, eval e X.env) :: starEach es X.env := by rfl) (hpl : (backTo pos (starEach es X.env)).any (·.1) = false := by rfl) :
    PE X (.Call (.Name x p) (e :: es) [] pos) (tMake C sp [] E0 t) := ⟨fun pn st σ H Q inv hyp => by
  obtain ⟨f, fd, h1, h2, h3, h4⟩ := D.ex
  exact (pe_make h1 h4 (hr.mono hk) hg h2 h3 .nil pass0 ha hdb he hpl).run pn st σ H Q inv hyp⟩
theorem pe_makeD0 {X : Cx} {C : Addr} {x : Str} {ps : List Str} {k j : Nat} {sp : Sp} {p pos : Pos} (D : CDef X.prog X.w X.K X.mg X.base C x ps k sp) (hr : Room j X.A) (hk : k + 1 ≤ j) (hg : Gl X x) (hdb : (x == ("__debug__" : Str)) = false := by decide) :
    PE X (.Call (.Name x p) [] [] pos) (tMake C sp [] E0 tNil) := ⟨fun pn st σ H Q inv hyp => by
  obtain ⟨f, fd, h1, h2, h3, h4⟩ := D.ex
  exact (pe_make0 h1 h4 (hr.mono hk) hg h2 h3 .nil pass0 hdb).run pn st σ H Q inv hyp⟩
/-- all is seen: the env of a body by hand -/
theorem Env.all {K : PySem.W.Frag} {H : Hp} {ρ : List Sl} {σ : L2.St} (hl : σ.length = ρ.length) (h : ∀ (i : Nat) (d : Dt), ρ[i]? = some (.dat d) → ∃ v, σ[i]? = some (some v) ∧ Has K H d v) (hn : ∀ (i : Nat) (p : Option Addr) (d : Dt), ρ[i]? ≠ some (.own p d)) : Env K [] [] H ρ σ := by
  refine ⟨hl, fun i s hs => ?_, fun i j p q d e v hij hi => absurd hi (hn i p d), fun a ha => absurd ha (by simp)⟩
  cases s with
  | un =>
    have hi : i < σ.length := by rw [hl]; exact (List.getElem?_eq_some_iff.mp hs).1
    exact ⟨σ[i], List.getElem?_eq_getElem hi, trivial⟩
  | dat d =>
    obtain ⟨v, h1, h2⟩ := h i d hs
    exact ⟨some v, h1, v, rfl, by rw [List.append_nil, cut_nil]; exact h2⟩
  | own p d => exact absurd hs (hn i p d)
/-- an evaluation where all is seen -/
theorem Ev.go {K : PySem.W.Frag} {H : Hp} {ρ : List Sl} {σ : L2.St} {te : TE} {d : Dt} (h : Ev K te ρ d) (I : Env K [] [] H ρ σ) {Q : VK} (q : ∀ v H', Same H H' → Has K H' d v → Q v H') : te σ H Q :=
  h [] [] H σ I Q fun v H' s hv => q v H' s (by rw [List.append_nil, cut_nil] at hv; exact hv)
theorem EvT.go {K : PySem.W.Frag} {H : Hp} {ρ : List Sl} {σ : L2.St} {te : TT} {b : Bool} (h : EvT K te ρ b) (I : Env K [] [] H ρ σ) {Q : Bool → Hp → Prop} (q : ∀ H', Same H H' → Q b H') : te σ H Q := h [] [] H σ I Q q
end DL
namespace DL
open PySem PySem.Spec L2
theorem ixN_nat {n i : Nat} (h : i < n) : ixN n (i : Int) = some i := by
  unfold ixN
  have h0 : ¬ ((i : Int) < 0) := by omega
  simp [h0, h]
theorem ixN_last {n : Nat} (h : 0 < n) : ixN n (-1) = some (n - 1) := by
  unfold ixN
  have h1 : (-1 : Int) + n = ((n - 1 : Nat) : Int) := by omega
  simp
  omega
theorem atI_nat {ds : List Dt} {i : Nat} (h : i < ds.length) : atI ds (i : Int) = ds[i]? := by
  show (ixN ds.length (i : Int)).bind (fun j => ds[j]?) = _
  rw [ixN_nat h]
  rfl
theorem atI_last {ds : List Dt} (h : 0 < ds.length) : atI ds (-1) = ds[ds.length - 1]? := by
  show (ixN ds.length (-1)).bind (fun j => ds[j]?) = _
  rw [ixN_last h]
  rfl
section
variable {K : PySem.W.Frag} {ρ ρ' : List Sl} {P : Po} {te ta tb tx : TE} {c : TT} {t u : TS} {d e : Dt} {i j : Nat} {wi : TI} {g : TG} {tt : TT}
/-! ### enumerate -/
def encI (i : Nat) (d : Dt) : Dt := .tup [.int (i : Int), d]
theorem ei_enumT {r : TA} {ds : List Dt} (h : EvA K r ρ [.tup ds]) : EvI K (iEnumA K r) ρ (ds.mapIdx encI) := fun O Y H σ I R q => .inr (h O Y H σ I _ fun vs H1 s1 hv => by
  obtain ⟨v, r', e1, ⟨a, xs, rfl, h2, h3⟩, e3⟩ := hv
  cases e3
  cases e1
  refine ⟨a, xs, rfl, cut_le _ _ _ _ h2, q _ H1 s1 fun i H' O' s hd' => ?_⟩
  have h' : H' a = some (.tup xs) := cut_le _ _ _ _ (s _ _ h2)
  rw [List.length_mapIdx]
  refine ⟨fun hi => ?_, fun hi => ⟨xs, h', by rw [h3.len]; exact hi⟩, fun x H'' hy => ?_⟩
  · have hx : i < xs.length := by rw [h3.len]; exact hi
    exact ⟨xs, xs[i], h', List.getElem?_eq_getElem hx⟩
  · obtain ⟨T, x0, rfl, hT, rfl, hy⟩ := hy
    refine ⟨same_new hT, fun d hd => ?_⟩
    rw [List.getElem?_mapIdx] at hd
    obtain ⟨d0, g1, g2⟩ := Option.map_eq_some_iff.mp hd
    subst g2
    obtain ⟨v, k1, k2⟩ := h3.get g1
    have k3 := hy xs h'
    rw [k1] at k3
    cases k3
    exact ⟨T, _, rfl, cut_new hd' hT, ⟨_, _, rfl, rfl, _, _, rfl, k2.mono (s.trans (cut_mono (same_new hT) _)), rfl⟩⟩)
theorem ei_enumL {r : TA} {ds : List Dt} (h : EvA K r ρ [.lst ds]) : EvI K (iEnumA K r) ρ (ds.mapIdx encI) := fun O Y H σ I R q => .inl (h O Y H σ I _ fun vs H1 s1 hv => by
  obtain ⟨v, r', e1, ⟨a, xs, rfl, h2, h3⟩, e3⟩ := hv
  cases e3
  cases e1
  have h0 : Rd H1 a (.lst xs) := (Same.rd (cut_le _ _)).rd _ _ trivial h2
  refine ⟨a, xs, rfl, .inl h0, q _ H1 s1 fun i H' O' s hd' => ?_⟩
  have h' : SqL K H' a xs := .inl ((Same.rd (cut_le _ _)).rd _ _ trivial ((Same.rd s).rd _ _ trivial h2))
  rw [List.length_mapIdx]
  refine ⟨fun hi => ?_, fun hi => ⟨xs, h', by rw [h3.len]; exact hi⟩, fun x H'' hy => ?_⟩
  · have hx : i < xs.length := by rw [h3.len]; exact hi
    exact ⟨xs, xs[i], h', List.getElem?_eq_getElem hx⟩
  · obtain ⟨T, x0, rfl, hT, rfl, hy⟩ := hy
    refine ⟨same_new hT, fun d hd => ?_⟩
    rw [List.getElem?_mapIdx] at hd
    obtain ⟨d0, g1, g2⟩ := Option.map_eq_some_iff.mp hd
    subst g2
    obtain ⟨v, k1, k2⟩ := h3.get g1
    have k3 := hy xs h'
    rw [k1] at k3
    cases k3
    exact ⟨T, _, rfl, cut_new hd' hT, ⟨_, _, rfl, rfl, _, _, rfl, k2.mono (s.trans (cut_mono (same_new hT) _)), rfl⟩⟩)
/-! ### methods of lists -/
theorem ty_list {O Y : List Addr} {H : Hp} {ds : List Dt} {v : V} (h : HasR K O Y H (.lst ds) v) : tyV K "list" v H := by
  obtain ⟨a, xs, rfl, h1, _⟩ := h.lst
  exact .inl ⟨rfl, xs, .inl h1⟩
theorem ev_count {ns : List Int} {k : Int} (h : EvR K ta ρ (.lst (ns.map .int))) (hb : Ev K tb ρ (.int k)) : Ev K (tBM K "list" (rCntI K) ta (tCons tb tNil)) ρ (.int (ns.count k : Nat)) := fun O Y H σ I Q q =>
  h O Y H σ I _ fun v H1 s1 hv => ⟨ty_list hv, hb O Y H1 σ (I.mono s1) _ fun y H2 s2 hy => by
    cases (show y = _ from hy)
    obtain ⟨a, xs, rfl, h1, h2⟩ := hv.lst
    refine ⟨a, ns, k, rfl, rfl, .inl ?_, q _ H2 (s1.trans s2) rfl⟩
    rw [← h2.ints]
    exact (Same.rd s2).rd _ _ trivial h1⟩
/-! ### list(range(..)) -/
theorem ev_lstRg1 {n : Int} (h : Ev K ta ρ (.int n)) (hn : RgOk 0 n) : Ev K (tLstRg (tRg1 ta)) ρ (.lst (nums 0 n.toNat)) := fun O Y H σ I Q q => h O Y H σ I _ fun v H1 s1 hv => by
  refine ⟨n, hv, hn, fun p hp => q _ _ (s1.trans (same_new hp)) ⟨p, _, rfl, .inl (cut_new (dom_mono I.dom s1) hp), ?_⟩⟩
  have e1 : rgV 0 n = ((List.range n.toNat).map fun (k : Nat) => (0 + (k : Int))).map V.int := by
    unfold rgV
    rw [List.map_map, Int.sub_zero]
    rfl
  have e2 : nums 0 n.toNat = ((List.range n.toNat).map fun (k : Nat) => (0 + (k : Int))).map Dt.int := by
    unfold nums
    rw [List.map_map]
    rfl
  rw [e1, e2]
  exact HasL.of_ints
/-! ### sorted -/
def isort (ns : List Int) : List Int := ns.mergeSort fun a b => decide (a ≤ b)
theorem isort_eq {ns zs : List Int} (h1 : zs.Perm ns) (h2 : zs.Pairwise (· ≤ ·)) : zs = isort ns := by
  refine List.Perm.eq_of_pairwise (le := fun a b => a ≤ b) (fun a b _ _ x y => Int.le_antisymm x y) h2 ?_ (h1.trans (List.mergeSort_perm ns _).symm)
  have h3 := List.pairwise_mergeSort (le := fun (a b : Int) => decide (a ≤ b)) (fun a b c x y => by simp at *; omega) (fun a b => by simp; omega) ns
  exact h3.imp fun x => of_decide_eq_true x
theorem nodup_once : ∀ (n : Nat) (ns : List Int), ns.length ≤ n → ns.eraseDups.Nodup
  | _, [], _ => by simp [List.eraseDups]
  | 0, _ :: _, h => by simp at h
  | n + 1, a :: ns, h => by
    rw [List.eraseDups_cons]
    refine List.nodup_cons.mpr ⟨fun z => ?_, nodup_once n _ ?_⟩
    · have := List.mem_eraseDups.mp z
      have := (List.mem_filter.mp this).2
      simp at this
    · have := List.length_filter_le (fun b => !b == a) ns
      rw [List.length_cons] at h
      omega
def usort (ns : List Int) : List Int := isort ns.eraseDups
theorem usort_eq {ns zs : List Int} (h1 : zs.Pairwise (· < ·)) (h2 : ∀ k, k ∈ zs ↔ k ∈ ns) : zs = usort ns := by
  refine isort_eq ?_ (h1.imp fun x => Int.le_of_lt x)
  refine (List.perm_ext_iff_of_nodup (h1.imp fun x => Int.ne_of_lt x) (nodup_once _ _ (Nat.le_refl _))).mpr fun a => ?_
  rw [h2, List.mem_eraseDups]
theorem mem_isort {ns : List Int} {k : Int} : k ∈ isort ns ↔ k ∈ ns := (List.mergeSort_perm ns _).mem_iff
theorem mem_usort {ns : List Int} {k : Int} : k ∈ usort ns ↔ k ∈ ns := by unfold usort; rw [mem_isort, List.mem_eraseDups]
theorem isort_pw (ns : List Int) : (isort ns).Pairwise (· ≤ ·) := by
  have h3 := List.pairwise_mergeSort (le := fun (a b : Int) => decide (a ≤ b)) (fun a b c x y => by simp at *; omega) (fun a b => by simp; omega) ns
  exact h3.imp fun x => of_decide_eq_true x
theorem isort_len (ns : List Int) : (isort ns).length = ns.length := (List.mergeSort_perm ns _).length_eq
theorem usort_pw (ns : List Int) : (usort ns).Pairwise (· < ·) := by
  have h1 : (usort ns).Nodup := (List.mergeSort_perm ns.eraseDups _).nodup_iff.mpr (nodup_once _ _ (Nat.le_refl _))
  have h2 := isort_pw ns.eraseDups
  refine (List.pairwise_iff_getElem).mpr fun i j hi hj hij => ?_
  have a1 := (List.pairwise_iff_getElem.mp h1) i j hi hj hij
  have a2 := (List.pairwise_iff_getElem.mp h2) i j hi hj hij
  exact Int.lt_iff_le_and_ne.mpr ⟨a2, a1⟩
def rSortDI : List V → Hp → VK → Prop := fun xs H Q => ∃ (a : Addr) (kvs : List (Key × V)) (ks : List Int), xs = [.ref a] ∧ Rd H a (.dK kvs) ∧ kvs.map (·.1) = ks.map Sum.inl ∧ ks.length < 64 ∧
  ∀ (zs : List Int) (p : Addr), zs.Perm ks → zs.Pairwise (· ≤ ·) → H p = none → Q (.ref p) (upd H p (.lst (zs.map V.int)))
def rSortA (K : PySem.W.Frag) (w : World) : List V → Hp → VK → Prop := fun xs H Q => rSortedI K xs H Q ∨ rSortDI xs H Q ∨ rSortedSet w xs H Q
theorem cr_sortA {X : Cx} (hc : X.calm = true) : CallR X (.builtin "sorted") (rSortA X.K X.w) := CallR.or2 cr_sortedI (CallR.or2 (call_sortedDI hc) (cr_sortedSet hc))
theorem rc_sortL {w : World} {ns : List Int} : RC1 K (rSortA K w) (.lst (ns.map .int)) (.lst ((isort ns).map .int)) := fun O Y H x dm hx Q q => by
  obtain ⟨a, xs, rfl, h1, h2⟩ := hx.lst
  refine .inl ⟨a, ns, rfl, .inl (by rw [← h2.ints]; exact h1), fun zs p z1 z2 hp => q _ _ (same_new hp) ?_⟩
  rw [← isort_eq z1 z2]
  exact ⟨p, _, rfl, .inl (cut_new dm hp), HasL.of_ints⟩
theorem rc_sortD {w : World} {α : Type} {f : α → Dt} {l : List (Int × α)} (hl : l.length < 64) : RC1 K (rSortA K w) (dkI f l) (.lst ((isort (l.map (·.1))).map .int)) := fun O Y H x dm hx Q q => by
  obtain ⟨a, xs, rfl, h1, h2, h3⟩ := hx.dk
  refine .inr (.inl ⟨a, _, l.map (·.1), rfl, h1, ?_, by rw [List.length_map]; exact hl, fun zs p z1 z2 hp => q _ _ (same_new hp) ?_⟩)
  · rw [List.map_fst_zip (by omega), List.map_map]
    rfl
  · rw [← isort_eq z1 z2]
    exact ⟨p, _, rfl, .inl (cut_new dm hp), HasL.of_ints⟩
end
end DL
namespace DL
open PySem PySem.Spec L2
section
variable {K : PySem.W.Frag} {ρ ρ' : List Sl} {P : Po} {te ta tb tx tk tv td : TE} {c : TT} {t u : TS} {d e : Dt} {i j : Nat} {wi : TI} {g : TG} {tt : TT}
/-! ### dict comprehensions -/
def dmade {α β : Type} (c : α → Bool) (k : α → Int) (v : α → β) (xs : List α) : List (Int × β) := (xs.filter c).foldl (fun l x => aput l (k x) (v x)) []
theorem dmade_snoc {α β : Type} {c : α → Bool} {k : α → Int} {v : α → β} {xs : List α} {x : α} : dmade c k v (xs ++ [x]) = if c x = true then aput (dmade c k v xs) (k x) (v x) else dmade c k v xs := by
  unfold dmade
  rw [List.filter_append, List.foldl_append]
  by_cases h : c x = true
  · rw [if_pos h, List.filter_cons, if_pos h]
    rfl
  · rw [if_neg h, List.filter_cons, if_neg h]
    rfl
theorem dmade_len {α β : Type} (c : α → Bool) (k : α → Int) (v : α → β) (xs : List α) : (dmade c k v xs).length ≤ xs.length := by
  have key : ∀ (zs : List α) (l : List (Int × β)), (zs.foldl (fun l x => aput l (k x) (v x)) l).length ≤ l.length + zs.length := fun zs => by
    induction zs with
    | nil => intro l; exact Nat.le_refl _
    | cons z zs ih =>
      intro l
      have h1 := ih (aput l (k z) (v z))
      have h2 := aput_len l (k z) (v z)
      rw [List.foldl_cons, List.length_cons]
      omega
  have h1 := key (xs.filter c) []
  have h2 := List.length_filter_le c xs
  unfold dmade
  rw [List.length_nil] at h1
  omega
theorem AHas.of {H : Hp} {α : Type} {f : α → Dt} : ∀ {l : List (Int × α)} {xs : List V}, HasL K H (l.map fun p => f p.2) xs → AHas K H f l ((l.map (·.1)).zip xs)
  | [], _, h => by
    cases (show _ = [] from h)
    exact .nil
  | (k, x) :: l, _, ⟨v, r, h1, h2, h3⟩ => by
    subst h1
    exact .cons h2 (AHas.of h3)
theorem AHas.own {O Y : List Addr} {H : Hp} {α : Type} {f : α → Dt} {l : List (Int × α)} {r : List (Int × V)} {a : Addr} (h : AHas K (cut H (O ++ Y)) f l r) (ha : H a = some (.dK (kvI r))) (hO : a ∈ O) (hY : a ∉ Y) : OwnAt K O Y H (dkI f l) (.ref a) := by
  refine ⟨a, r.map (·.2), rfl, hO, hY, ?_, by rw [List.length_map, List.length_map, h.len], h.hasL⟩
  rw [h.zip]
  exact ha
theorem OwnAt.dkI {O Y : List Addr} {H : Hp} {α : Type} {f : α → Dt} {l : List (Int × α)} {v : V} (h : OwnAt K O Y H (dkI f l) v) : ∃ a r, v = .ref a ∧ a ∈ O ∧ a ∉ Y ∧ H a = some (.dK (kvI r)) ∧ AHas K (cut H (O ++ Y)) f l r := by
  obtain ⟨a, xs, e1, e2, e3, e4, e5, e6⟩ := h
  refine ⟨a, (l.map (·.1)).zip xs, e1, e2, e3, ?_, AHas.of e6⟩
  rw [← zip_kvI l xs (by rw [List.length_map] at e5; exact e5)]
  exact e4
/-- one turn: the key, the value -/
structure DcTurn (K : PySem.W.Frag) (g : TG) (tt : TT) (tk tv : TE) (vs : List Nat) (ρ : List Sl) (d : Dt) (b : Bool) (k : Int) (f : Dt) : Prop where
  ex : ∃ sl ρ', (∀ i ∈ sl, i ∈ vs) ∧ Tg K g sl d (wipeS ρ vs) ρ' ∧ EvT K tt ρ' b ∧ (b = true → Ev K tk ρ' (.int k) ∧ Ev K tv ρ' f)
theorem en_dc {α β : Type} {vs : List Nat} {F : β → Dt} (en : Nat → α → Dt) (xs : List α) (c : α → Bool) (k : α → Int) (f : α → β) (h : EvIR K wi ρ (xs.mapIdx en))
    (ht : ∀ i x, xs[i]? = some x → DcTurn K g tt tk tv vs ρ (en i x) (c x) (k x) (F (f x))) (hz : xs.length < sizeLine) : EvN K (tDc wi g tt tk tv vs) ρ (dkI F (dmade c k f xs)) := fun O Y H σ I Q q => by
  refine h O Y H σ I _ fun J H1 s1 w => fun D hD => ?_
  have hDn : H D = none := s1.free hD
  have hDX : D ∉ O ++ Y := new_out (dom_mono I.dom s1) hD
  have I1 := I.mono s1
  refine ⟨fun i m H2 => m = xs.length - i ∧ i ≤ xs.length ∧ Same H1 H2 ∧ ∃ r, H2 D = some (.dK (kvI r)) ∧ AHas K (cut H2 (D :: O ++ Y)) F (dmade c k f (xs.take i)) r, ⟨xs.length, by omega, by omega, same_new hD, [], upd_same, .nil⟩, fun i m H2 hW => ?_⟩
  obtain ⟨hm, hi, s2, r, hws, hh⟩ := hW
  have hlen : (xs.mapIdx en).length = xs.length := List.length_mapIdx
  have dmZ : ∀ a ∈ (O ++ [D]) ++ Y, H2 a ≠ none := fun a ha => by
    simp only [List.mem_append, List.mem_singleton] at ha
    rcases ha with (z | z) | z
    · exact Same.dom s2 (I1.dom a (List.mem_append_left _ z))
    · subst z
      rw [hws]
      exact fun z => by cases z
    · exact Same.dom s2 (I1.dom a (List.mem_append_right _ z))
  obtain ⟨w1, w2, w3⟩ := w i H2 [D] s2 (fun a ha => by rw [List.mem_singleton.mp ha]; exact hD) dmZ
  rw [hlen] at w1 w2
  by_cases hlt : i < xs.length
  · refine .inr ⟨w1 hlt, fun H3 => Same H1 H3 ∧ ∃ r, H3 D = some (.dK (kvI r)) ∧ AHas K (cut H3 (D :: O ++ Y)) F (dmade c k f (xs.take (i + 1))) r, fun H3 ⟨a1, a2⟩ => ⟨xs.length - (i + 1), by omega, rfl, hlt, a1, a2⟩, fun x H3 hy => ?_⟩
    obtain ⟨s3, w4⟩ := w3 x H3 hy
    have hx : xs[i]? = some xs[i] := List.getElem?_eq_getElem hlt
    obtain ⟨sl, ρ', hsl, tg, ett, ete⟩ := (ht i xs[i] hx).ex
    have hdd : (xs.mapIdx en)[i]? = some (en i xs[i]) := by rw [List.getElem?_mapIdx, hx]; rfl
    have tk : xs.take (i + 1) = xs.take i ++ [xs[i]] := by rw [List.take_add_one, hx]; rfl
    have s13 : Same H1 H3 := s2.trans s3
    have hws3 : H3 D = some (.dK (kvI r)) := s3 _ _ hws
    have I3 : Env K O (D :: Y) H3 ρ σ := I1.hide s13 hD hws3
    have perm : ∀ (H' : Hp), cut H' (O ++ (D :: Y)) = cut H' (D :: O ++ Y) := fun H' => cut_perm fun b => by
      simp only [List.mem_append, List.mem_cons, List.cons_append]
      constructor
      · rintro (z | z | z) <;> simp [z]
      · rintro (z | z | z) <;> simp [z]
    have perm2 : ∀ (H' : Hp), cut H' ((O ++ [D]) ++ Y) = cut H' (O ++ (D :: Y)) := fun H' => by rw [List.append_assoc]; rfl
    have hit : Has K (cut H3 (O ++ (D :: Y))) (en i xs[i]) x := by
      have := w4 _ hdd
      rw [perm2] at this
      exact this
    refine tg O (D :: Y) H3 (wipe σ vs) x (I3.wipe vs) hit _ fun σ4 I4 l4 k4 => ⟨wipe_set l4 fun k hk => k4 k fun z => hk (hsl k z), ?_⟩
    refine ett O (D :: Y) H3 σ4 I4 _ fun H4 s4 => ?_
    by_cases hc : c xs[i] = true
    · rw [if_pos hc]
      obtain ⟨ek, ev⟩ := ete hc
      refine ek O (D :: Y) H4 σ4 (I4.mono s4) _ fun y H5 s5 hy5 => ?_
      cases (show y = _ from hy5)
      refine ev O (D :: Y) H5 σ4 (I4.mono (s4.trans s5)) _ fun z H6 s6 hz6 => ?_
      have hws6 : H6 D = some (.dK (kvI r)) := s6 _ _ (s5 _ _ (s4 _ _ hws3))
      have s36 := (s4.trans s5).trans s6
      have hh6 : AHas K (cut H6 (D :: O ++ Y)) F (dmade c k f (xs.take i)) r := hh.imp fun x v hv => hv.mono (cut_mono (s3.trans s36) _)
      refine ⟨kvI r, .inl (k xs[i]), rfl, hws6, ?_, fun b o hb => ?_, aput r (k xs[i]) z, ?_, ?_⟩
      · rw [kvI_len, hh.len]
        have h1 := dmade_len c k f (xs.take i)
        have h2 : (xs.take i).length ≤ xs.length := by rw [List.length_take]; omega
        omega
      · have hbD : b ≠ D := ne_of_none hb hD
        rw [upd_ne hbD]
        exact (s13.trans s36) _ _ hb
      · rw [upd_same, putK_kvI]
      · rw [cut_upd_in (show D ∈ D :: O ++ Y from List.mem_cons_self), tk, dmade_snoc, if_pos hc]
        rw [perm] at hz6
        exact hh6.put hz6
    · rw [if_neg hc]
      refine ⟨s13.trans s4, r, s4 _ _ hws3, ?_⟩
      rw [tk, dmade_snoc, if_neg hc]
      exact hh.imp fun x v hv => hv.mono (cut_mono (s3.trans s4) _)
  · have e : i = xs.length := by omega
    subst e
    refine .inl ⟨w2 (by omega), q D H2 (s1.trans s2) hDn ?_⟩
    rw [List.take_length] at hh
    exact hh.own hws List.mem_cons_self fun z => hDX (List.mem_append_right _ z)
theorem en_dcM {α β : Type} {vs : List Nat} {F : β → Dt} (en : α → Dt) (xs : List α) (c : α → Bool) (k : α → Int) (f : α → β) (h : EvIR K wi ρ (xs.map en))
    (ht : ∀ x, x ∈ xs → DcTurn K g tt tk tv vs ρ (en x) (c x) (k x) (F (f x))) (hz : xs.length < sizeLine) : EvN K (tDc wi g tt tk tv vs) ρ (dkI F (dmade c k f xs)) :=
  en_dc (fun _ x => en x) xs c k f (by rw [mapIdx_map]; exact h) (fun i x hx => ht x (List.mem_of_getElem? hx)) hz
/-! ### own dicts changed -/
theorem r_put {α : Type} {F : α → Dt} {p : Option Addr} {l : List (Int × α)} {k : Int} {x : α} (hi : ρ[i]? = some (.own p (dkI F l))) (h : Ev K te ρ (F x)) (hk : Ev K tb ρ (.int k)) (hz : l.length < sizeLine) (q : P.nx (ρ.set i (.own p (dkI F (aput l k x))))) :
    Runs K (sDPut (tVar i) tb te) ρ P := fun Y G σ H D ⟨O, I, gg⟩ E => h O Y H σ I _ fun v H1 s1 hv => by
  have I1 := I.mono s1
  obtain ⟨x0, hx, ho, hp⟩ := I1.own hi
  refine ⟨x0, hx, hk O Y H1 σ I1 _ fun y H2 s2 hy => ?_⟩
  cases (show y = _ from hy)
  have I2 := I1.mono s2
  obtain ⟨a, r, rfl, h2, hay, h3, h4⟩ := (ho.mono s2).dkI
  refine ⟨a, _, rfl, .inl ⟨kvI r, .inl k, h3, rfl, by rw [kvI_len, h4.len]; exact hz, rfl⟩, E.nx _ _ _ q ⟨O, ?_, ?_⟩⟩
  · refine I2.change hi hx h2 ?_
    rw [putK_kvI]
    refine AHas.own (r := aput r k v) ?_ upd_same h2 hay
    rw [cut_upd_in (List.mem_append_left _ h2)]
    exact h4.put (hv.mono (cut_mono s2 _))
  · rw [cut_upd_in h2]
    exact gg.trans (cut_mono (s1.trans s2) _)
/-- d.pop(k) -/
theorem em_pop {α : Type} {F : α → Dt} {p : Option Addr} {l : List (Int × α)} {k : Int} {x : α} (hi : ρ[i]? = some (.own p (dkI F l))) (hk : Ev K tb ρ (.int k)) (hx : alook l k = some x) : EvM K (tDPop1 (tVar i) tb) ρ (F x) (ρ.set i (.own p (dkI F (adrop l k)))) := fun O Y H σ I Q q => by
  obtain ⟨x0, hx0, ho, hp⟩ := I.own hi
  obtain ⟨a, r, rfl, h2, hay, h3, h4⟩ := ho.dkI
  refine ⟨_, hx0, a, rfl, .inl ⟨_, .inl h3⟩, hk O Y H σ I _ fun y H2 s2 hy => ?_⟩
  cases (show y = _ from hy)
  have h4' := h4.imp fun x v hv => hv.mono (cut_mono s2 _)
  have hl := h4'.look k
  rw [hx] at hl
  obtain ⟨v, g1, g2⟩ := hl
  refine ⟨kvI r, .inl k, v, s2 _ _ h3, rfl, by rw [valV_kvI]; exact g1, q v _ ?_ ?_ ?_⟩
  · refine (I.mono s2).change hi hx0 h2 ?_
    rw [dropK_kvI]
    refine AHas.own (r := adrop r k) ?_ upd_same h2 hay
    rw [cut_upd_in (List.mem_append_left _ h2)]
    exact h4'.drop k
  · rw [cut_upd_in h2]
    exact cut_mono s2 _
  · rw [cut_upd_in (List.mem_append_left _ h2)]
    exact g2
end
end DL
namespace DL
open PySem PySem.Spec L2 PyProof.Rows
/-! ### set(xs), a list of whole numbers -/
section
variable {prg : Program} {wd : World} {ar : Around} {ex : Value → Shared → Prop} {st : Shared}
theorem call_set_lstI {lx : Addr} {arr : Array Value} (ks : List Int) {Qz : Value → Shared → Prop} (nh : ar.handled = none) (isl : st.heap.IsList lx arr) (are : IntsAre arr.toList ks) (few : ks.length + 1 < scanBound)
    (fin : ∀ (hz : Heap) (tz cz : Nat), SetR wd hz st.heap.objs.size (fun j => decide (j ∈ ks)) cz → cz ≤ ks.length → (∀ b o, st.heap.get? b = some o → hz.get? b = some o) → Qz (.ref st.heap.objs.size) { st with heap := hz, toks := tz }) :
    wpAny (model prg wd) ar (call (.type "set") [.ref lx]) Qz ex st := by
  have asz : arr.size = ks.length := by
    have z := IntsAre.length are
    rw [Array.length_toList] at z
    exact z
  obtain ⟨c9, t9, mro9⟩ := F.called_set.mro
  have mk9 := F.called_set.made
  have sub9 := F.called_set.sub
  refine wpAny_call (codeAny_of_tree ?_)
  show wpAny _ _ (callAny (.type "set") _) _ ex st
  refine wpAny_pure ⟨(Code.quiet_builtin _ (by decide +kernel)), (codeAny_builtin F.entry_type_call ?_)⟩
  rw [Around.under_plain ((weight_type_call_type "set" [.ref lx] [])) rfl]
  have nt9 := F.called_set.notType
  have cc9 := F.called_set.canCreate
  have tc9 := F.typeCall_set_1 (.ref lx)
  repeat (any_goals (first | (assumption) | (wp_step)))
  refine codeAny_mono (code_set_led1 (.ref lx) (E := ex) (Q₁ := fun ob st1 => ob = .ref st.heap.objs.size ∧ st1 = { st with heap := st.heap.push { cls := .type "set", dict := none, data := .set #[] 0 (.fresh 0 0 (!wd.params.followText "set-order")) } }) ⟨rfl, rfl⟩) fun r9 st1 hr9 => ?_
  cases r9 with
  | error e9 => exact hr9
  | ok f9 =>
    cases f9 with
    | ret ob =>
      obtain ⟨rfl, rfl⟩ := hr9
      have at9 : (st.heap.push { cls := .type "set", dict := none, data := .set #[] 0 (.fresh 0 0 (!wd.params.followText "set-order")) }).get? st.heap.objs.size = some { cls := .type "set", dict := none, data := .set #[] 0 (.fresh 0 0 (!wd.params.followText "set-order")) } := Heap.get?_push_size _ rfl
      have ty9 : Shared.TypeIs { st with heap := st.heap.push { cls := .type "set", dict := none, data := .set #[] 0 (.fresh 0 0 (!wd.params.followText "set-order")) } } (.ref st.heap.objs.size) "set" := ⟨_, at9, rfl⟩
      have li9 := F.called_set.init.lookup
      have bi9 := F.called_set.init.bind (.ref st.heap.objs.size)
      repeat (any_goals (first | (assumption) | (wp_step)))
      refine codeAny_mono (codeAny_call_builtin (R := wants (fun r st2 => r = .none ∧ ∃ hz tz cz, st2 = { st with heap := hz, toks := tz } ∧ SetR wd hz st.heap.objs.size (fun j => decide (j ∈ ks)) cz ∧ cz ≤ ks.length ∧
          (∀ b o, st.heap.get? b = some o → hz.get? b = some o)) ex) F.called_set.init.plain F.entry_set_init (check_set_init_1 ty9 ?_)) fun r2 st2 hr2 => ?_
      · obtain ⟨ol, gl, cl9, nl, dl9⟩ := isl
        obtain ⟨oc, od, oa, os⟩ := ol
        simp only at cl9 dl9
        subst cl9
        subst dl9
        have gl' : (st.heap.push { cls := .type "set", dict := none, data := .set #[] 0 (.fresh 0 0 (!wd.params.followText "set-order")) }).get? lx = some { cls := .type "list", dict := od, data := .seq arr nl, slots := os } := Heap.get?_push_of_some _ gl
        have s1_9 := F.sub_list_set
        have s2_9 := F.sub_list_frozenset
        have s3_9 : (Value.type "list" == Value.type "dict") = false := by decide
        have isl1 : (st.heap.push { cls := .type "set", dict := none, data := .set #[] 0 (.fresh 0 0 (!wd.params.followText "set-order")) }).IsList lx arr := ⟨_, gl', rfl, nl, rfl⟩
        unfold Builtin.«set.__init__»
        unfold noKeywords Builtin.Frozenset.updateFrom
        generalize ePI : pyIter = PI
        wp_walk
        subst ePI
        refine wpAny_pyIter_list isl1 ?_
        refine wpAny_bind (wpAny_runValue ?_)
        have lt9 : lx < st.heap.objs.size := Heap.lt_size gl
        have nh3 : ar.in1.in1.in1.handled = none := by simp [nh]
        have ne9 : lx ≠ (st.heap.push { cls := .type "set", dict := none, data := .set #[] 0 (.fresh 0 0 (!wd.params.followText "set-order")) }).objs.size := by
          rw [Heap.size_push]
          exact Nat.ne_of_lt (Nat.lt_succ_of_lt lt9)
        have fp9 : st.heap.objs.size ∉ [(st.heap.push { cls := .type "set", dict := none, data := .set #[] 0 (.fresh 0 0 (!wd.params.followText "set-order")) }).objs.size, lx] := by
          rw [Heap.size_push]
          simp only [List.not_mem_nil, List.mem_cons, List.mem_singleton, or_false, not_or]
          exact ⟨(Nat.ne_of_lt (Nat.lt_succ_self _)), Nat.ne_of_gt lt9⟩
        have val9 : ∀ (i : Nat) (v : Value), arr[i]? = some v → ∃ k t, ks[i]? = some k ∧ v = .int k t := fun i v hv => by
          have hi : i < ks.length := by rw [← asz]; exact (Array.getElem?_eq_some_iff.mp hv).1
          obtain ⟨t, e⟩ := PyProof.Rows.IntsAre.int_at are i v (by rw [Array.getElem?_toList]; exact hv)
          refine ⟨ks[i], t, List.getElem?_eq_getElem hi, ?_⟩
          rw [e, List.getD_eq_getElem?_getD, List.getElem?_eq_getElem hi] <;> rfl
        refine set_update_ints ((Walks.list nh3 _ lx ne9 arr).toS) st.heap.objs.size
          fp9 ks asz few val9 (arr.size - 0) 0 _ (by omega) (Nat.zero_le _)
          ⟨⟨_, Heap.get?_push_size _ rfl, rfl, rfl⟩, (isl1.push _)⟩ ?hA ?hB
        case hA =>
          have g9 : ((st.heap.push { cls := .type "set", dict := none, data := .set #[] 0 (.fresh 0 0 (!wd.params.followText "set-order")) }).push { cls := .type "list_iterator", data := .fields #[.ref lx, .int 0 0] }).get? st.heap.objs.size
              = some { cls := .type "set", dict := none, data := .set #[] 0 (.fresh 0 0 (!wd.params.followText "set-order")) } := Heap.get?_push_of_some _ at9
          exact ⟨0, Nat.le_refl 0, setR_new_at g9⟩
        case hB =>
          intro st3 c3 mv3 le3 set3
          obtain ⟨hz, g2, d2, tz, o2⟩ := st3
          have e1 : g2 = st.gens := mv3.gens
          have e2 : d2 = st.drawn := mv3.drawn
          have e3 : o2 = st.os := mv3.os
          subst e1
          subst e2
          subst e3
          show wpAny _ _ _ _ ex _
          refine wpAny_pure ?_
          show wpAny _ _ (ret Value.none) _ ex _
          rw [asz] at le3
          refine wpAny_pure ⟨rfl, hz, tz, c3, rfl, set3, le3, fun b o e => ?_⟩
          have b0 : b < st.heap.objs.size := Heap.lt_size e
          have b1 : b ≠ st.heap.objs.size := Nat.ne_of_lt b0
          have b2 : b ≠ (st.heap.push { cls := .type "set", dict := none, data := .set #[] 0 (.fresh 0 0 (!wd.params.followText "set-order")) }).objs.size := by
            rw [Heap.size_push]
            exact Nat.ne_of_lt (Nat.lt_succ_of_lt b0)
          exact mv3.heap b o (by simp only [List.not_mem_nil, List.mem_cons, List.mem_singleton, or_false, not_or]; exact ⟨b1, b2⟩) (Heap.get?_push_of_some _ (Heap.get?_push_of_some _ e))
      · cases r2 with
        | error e9 => exact hr2
        | ok f2 =>
          cases f2 with
          | ret rr =>
            obtain ⟨rfl, hz, tz, c3, rfl, set3, le3, kp3⟩ := hr2
            repeat (any_goals (first | (assumption) | (wp_step)))
            exact fin _ _ _ set3 le3 kp3
          | _ => exact hr2.elim
    | _ => exact hr9.elim
end
def rSetI (K : PySem.W.Frag) (w : World) : List V → Hp → VK → Prop := fun xs H Q => ∃ (p : Addr) (ks : List Int), xs = [.ref p] ∧ SqL K H p (ks.map V.int) ∧ ks.length ≤ 1000 ∧ ∀ (a : Addr) (n : Nat), H a = none → n ≤ ks.length → Q (.ref a) (upd H a (SetO w a (fun j => decide (j ∈ ks)) n))
theorem cr_setI {X : Cx} (hc : X.calm = true) : CallR X (.type "set") (rSetI X.K X.w) := by
  intro pn st sl hp xs us Q inv rv hyp
  obtain ⟨p, ks, rfl, hq, hl, q⟩ := hyp
  obtain ⟨u, rfl, ru⟩ := vals1 rv
  cases ru
  obtain ⟨its, r, pl, hz⟩ := inv.list hq
  refine call_set_lstI ks (inv.ok.hd hc) pl.isList (by simpa using ints_of_vals r) (by unfold scanBound; omega) fun h2 tk cn R1 hcn kp => ?_
  refine ⟨.ref st.heap.objs.size, _, ?_, rfl, q _ _ (inv.hok.fresh (Nat.le_refl _)) hcn⟩
  exact inv.laid (t' := tk) kp (Nat.le_refl _) (setO_new R1)
section
variable {K : PySem.W.Frag} {ρ : List Sl} {te : TE}
theorem ev_sortSet {w : World} {ns : List Int} (h : EvR K te ρ (.lst (ns.map .int))) (hl : ns.length < 64) : Ev K (tCB (rSortA K w) (tCons (tCB (rSetI K w) (tCons te tNil)) tNil)) ρ (.lst ((usort ns).map .int)) := fun O Y H σ I Q q => h O Y H σ I _ fun v H1 s1 hv => by
  obtain ⟨a, xs, rfl, h1, h2⟩ := hv.lst
  refine ⟨a, ns, rfl, .inl (by rw [← h2.ints]; exact h1), by omega, fun b n hb hn => ?_⟩
  refine .inr (.inr ⟨b, _, n, rfl, upd_same, by omega, fun zs p z1 z2 z3 hp => ?_⟩)
  have s2 : Same H1 (upd H1 b (SetO w b (fun j => decide (j ∈ ns)) n)) := same_new hb
  rw [usort_eq (ns := ns) z1 fun k => (z2 k).trans (by simp)]
  exact q _ _ ((s1.trans s2).trans (same_new hp)) ⟨p, _, rfl, .inl (cut_new (dom_mono I.dom (s1.trans s2)) hp), HasL.of_ints⟩
end
end DL
namespace DL
open PySem PySem.Spec L2
/-! ### dicts that are walked: held fast, by this walk or by one around it -/
def tLockW (t : TE) : TE := tEither (tLockE t) t
theorem pe_lockW {X : Cx} {e : Expr} {t : TE} (h : PE X e t) : PE X e (tLockW t) := pe_or2 (pe_lock h) h
theorem lock_rd {H : Hp} {a : Addr} {u : HO} {od : Obj} (h : H a = some u) (bu : Bare u) (nf : ¬ Fixed u) : RdLe H (upd H a (.frz od u)) := by
  refine ⟨fun b w bw r => ?_, fun b w fw e => ?_⟩
  · by_cases z : b = a
    · subst z
      rcases r with r | ⟨o, r⟩
      · rw [h] at r
        cases r
        exact .inr ⟨od, upd_same⟩
      · rw [h] at r
        cases r
        exact False.elim bu
    · rcases r with r | ⟨o, r⟩
      · exact .inl (by rw [upd_ne z]; exact r)
      · exact .inr ⟨o, by rw [upd_ne z]; exact r⟩
  · by_cases z : b = a
    · subst z
      rw [h] at e
      cases e
      exact absurd fw nf
    · rw [upd_ne z]
      exact e
theorem unlock_rd {H : Hp} {a : Addr} {u : HO} {od : Obj} (h : H a = some (.frz od u)) : RdLe H (upd H a u) := by
  refine ⟨fun b w bw r => ?_, fun b w fw e => ?_⟩
  · by_cases z : b = a
    · subst z
      rcases r with r | ⟨o, r⟩
      · rw [h] at r
        cases r
        exact False.elim bw
      · rw [h] at r
        cases r
        exact .inl upd_same
    · rcases r with r | ⟨o, r⟩
      · exact .inl (by rw [upd_ne z]; exact r)
      · exact .inr ⟨o, by rw [upd_ne z]; exact r⟩
  · by_cases z : b = a
    · subst z
      rw [h] at e
      cases e
      exact False.elim fw
    · rw [upd_ne z]
      exact e
section
variable {K : PySem.W.Frag} {ρ ρ' : List Sl} {P : Po} {te ta tb tx tk tv td : TE} {c : TT} {t u : TS} {d e : Dt} {i j : Nat} {wi : TI} {g : TG} {tt : TT}
theorem OwnAt.rdle {O Y : List Addr} {H H' : Hp} {v : V} (h : OwnAt K O Y H d v) (r : RdLe H H') (ho : ∀ a ∈ O, ∀ o, H a = some o → H' a = some o) : OwnAt K O Y H' d v := by
  cases d with
  | lst ds => obtain ⟨a, xs, h1, h2, hy, h3, h4⟩ := h; exact ⟨a, xs, h1, h2, hy, ho _ h2 _ h3, h4.monoR (cut_rd r _)⟩
  | dk ks ds => obtain ⟨a, xs, h1, h2, hy, h3, hl, h4⟩ := h; exact ⟨a, xs, h1, h2, hy, ho _ h2 _ h3, hl, h4.monoR (cut_rd r _)⟩
  | dt ks ds => obtain ⟨a, xs, h1, h2, hy, h3, hl, h4⟩ := h; exact ⟨a, xs, h1, h2, hy, ho _ h2 _ h3, hl, h4.monoR (cut_rd r _)⟩
  | on f ds => obtain ⟨a, xs, h1, h2, hy, hb, h3, h4⟩ := h; exact ⟨a, xs, h1, h2, hy, hb, ho _ h2 _ h3, h4.monoR (cut_rd r _)⟩
  | _ => exact False.elim h
theorem Env.rdle {O Y : List Addr} {H H' : Hp} {σ : L2.St} (I : Env K O Y H ρ σ) (r : RdLe H H') (ho : ∀ a ∈ O, ∀ o, H a = some o → H' a = some o) (hd : ∀ a, H a ≠ none → H' a ≠ none) : Env K O Y H' ρ σ := by
  refine ⟨I.len, fun k s hs => ?_, I.sep, fun a ha => hd a (I.dom a ha)⟩
  obtain ⟨o, h1, h2⟩ := I.ok k s hs
  refine ⟨o, h1, ?_⟩
  cases s with
  | un => trivial
  | dat d => obtain ⟨v, g1, g2⟩ := h2; exact ⟨v, g1, g2.monoR (cut_rd r _)⟩
  | own p d => obtain ⟨v, g1, g2, g3⟩ := h2; exact ⟨v, g1, g2.rdle r ho, g3⟩
/-- an evaluation that always finds the same address -/
def FixAt (K : PySem.W.Frag) (te : TE) (ρ : List Sl) (d : Dt) : Prop := ∀ O Y H σ, Env K O Y H ρ σ → ∃ a, Has K (cut H (O ++ Y)) d (.ref a) ∧ ∀ H', RdLe H H' → ∀ Q : VK, Q (.ref a) H' → te σ H' Q
theorem fa_var {ks : List Key} {ds : List Dt} (h : ρ[i]? = some (.dat (.dk ks ds))) : FixAt K (tVar i) ρ (.dk ks ds) := fun O Y H σ I => by
  obtain ⟨v, h1, h2⟩ := I.dat h
  obtain ⟨a, xs, rfl, h3⟩ := id h2
  exact ⟨a, h2, fun H' r Q q => ⟨_, h1, q⟩⟩
theorem fa_fld {C : Addr} {ns : List Str} {ds : List Dt} {f : Str} {ks : List Key} {es : List Dt} (h : ρ[i]? = some (.dat (.ins C ns ds))) (c : Cls K C) (n : NoAttr K C f) (hl : (ns.zip ds).lookup f = some (.dk ks es)) : FixAt K (tFld K (tVar i) f) ρ (.dk ks es) := fun O Y H σ I => by
  obtain ⟨v, h1, h2⟩ := I.dat h
  obtain ⟨a, dx, xs, rfl, h3, h4, h5⟩ := h2
  have hz := zip_look (f := f) (ns := ns) h5
  rw [hl] at hz
  obtain ⟨v, g1, g2⟩ := hz
  obtain ⟨b, ys, rfl, _⟩ := id g2
  exact ⟨b, g2, fun H' r Q q => ⟨_, h1, a, C, dx, _, _, rfl, r.fx _ _ trivial (cut_le _ _ _ _ h3), c, n, g1, q⟩⟩
/-- what is walked: the keys -/
theorem wk_keys {O Y : List Addr} {H : Hp} {a : Addr} {o : Obj} {ks : List Key} {xs : List V} (h : H a = some (.frz o (.dK (ks.zip xs)))) (hl : ks.length = xs.length) : WkR K (Itk a o (ks.zip xs)) O Y H (ks.map kD) := fun i H' Z s hz hd => by
  have h' := s _ _ h
  have hzl : (ks.zip xs).length = ks.length := by rw [List.length_zip]; omega
  refine ⟨fun hi => ⟨h', ?_⟩, fun hi => ⟨h', ?_⟩, fun x H'' hy => ?_⟩
  · rw [List.length_map] at hi
    omega
  · rw [List.length_map] at hi
    omega
  · obtain ⟨rfl, k, v, e1, rfl⟩ := hy
    refine ⟨Same.refl _, fun d hd => ?_⟩
    rw [List.getElem?_map] at hd
    have e2 : ks[i]? = some k := by
      obtain ⟨hi, e3⟩ := List.getElem?_eq_some_iff.mp e1
      have hik : i < ks.length := by omega
      rw [List.getElem?_eq_getElem hik]
      rw [List.getElem_zip] at e3
      exact congrArg some (congrArg Prod.fst e3)
    rw [e2] at hd
    cases hd
    cases k <;> rfl
theorem en_lockLc {α : Type} {vs : List Nat} {ks : List Key} {ds : List Dt} (en : α → Dt) (xs : List α) (cc : α → Bool) (f : α → Dt) (h : FixAt K td ρ (.dk ks ds)) (hk : ks.map kD = xs.map en)
    (ht : ∀ x, x ∈ xs → LcTurn K g tt te vs ρ (en x) (cc x) (f x)) (hz : xs.length < sizeLine) : EvN K (tLockW (tLc (iKeys td) g tt te vs)) ρ (.lst (made cc f xs)) := fun O Y H σ I Q q => by
  obtain ⟨a, ⟨a', ys, e0, h1, h2, h3⟩, h4⟩ := h O Y H σ I
  cases e0
  have hka : ks.map kD = xs.mapIdx fun _ x => en x := by rw [mapIdx_map]; exact hk
  have htI : ∀ i x, xs[i]? = some x → LcTurn K g tt te vs ρ ((fun _ x => en x) i x) (cc x) (f x) := fun i x hx => ht x (List.mem_of_getElem? hx)
  rcases h1 with h1 | ⟨o, h1⟩
  · left
    obtain ⟨haX, hH⟩ := cut_some.mp h1
    refine ⟨a, _, hH, trivial, fun od => ?_⟩
    have rl : RdLe H (upd H a (.frz od (.dK (ks.zip ys)))) := lock_rd hH trivial (fun z => z)
    have I1 : Env K O Y (upd H a (.frz od (.dK (ks.zip ys)))) ρ σ := by
      refine I.rdle rl (fun b hb o hbo => ?_) fun b hb => ?_
      · rw [upd_ne (fun z => haX (by rw [← z]; exact List.mem_append_left _ hb))]
        exact hbo
      · by_cases z : b = a
        · subst z; rw [upd_same]; exact fun z => by cases z
        · rw [upd_ne z]; exact hb
    refine lc_at (fun _ x => en x) xs cc f I1 (fun R r => ?_) htI hz fun D H' s hD ho => ⟨s _ _ upd_same, ?_⟩
    · exact h4 _ rl _ ⟨a, od, rfl, .inl ⟨_, upd_same, r _ _ (Same.refl _) (hka ▸ wk_keys upd_same h2)⟩⟩
    · have hDa : D ≠ a := fun z => by subst z; rw [upd_same] at hD; cases hD
      have hDn : H D = none := by rw [upd_ne hDa] at hD; exact hD
      have hfr : H' a = some (.frz od (.dK (ks.zip ys))) := s _ _ upd_same
      refine q D _ (fun b o hb => ?_) hDn (ho.rdle (unlock_rd hfr) fun b hb o hbo => ?_)
      · by_cases z : b = a
        · subst z
          rw [hH] at hb
          cases hb
          exact upd_same
        · rw [upd_ne z]
          exact s _ _ (by rw [upd_ne z]; exact hb)
      · have hba : b ≠ a := fun z => by
          rcases List.mem_cons.mp hb with w | w
          · exact hDa (by rw [← w, z])
          · exact haX (by rw [← z]; exact List.mem_append_left _ w)
        rw [upd_ne hba]
        exact hbo
  · right
    obtain ⟨haX, hH⟩ := cut_some.mp h1
    refine lc_at (fun _ x => en x) xs cc f I (fun R r => ?_) htI hz fun D H' s hD ho => q D H' s hD ho
    exact h4 _ (Same.rd (Same.refl _)) _ ⟨a, o, rfl, .inl ⟨_, hH, r _ _ (Same.refl _) (hka ▸ wk_keys hH h2)⟩⟩
/-! ### own lists extended -/
theorem r_ext {p : Option Addr} {ds es : List Dt} (hi : ρ[i]? = some (.own p (.lst ds))) (h : EvN K te ρ (.lst es)) (hz : ds.length + es.length ≤ sizeLine) (k : P.nx (ρ.set i (.own p (.lst (ds ++ es))))) :
    Runs K (tDrop (tBM K "list" rExtend (tVar i) (tCons te tNil))) ρ P := fun Y G σ H D ⟨O, I, gg⟩ E => by
  obtain ⟨v, hv, ho, hp⟩ := I.own hi
  obtain ⟨a, xs, rfl, h2, hy, h3, h4⟩ := ho
  refine ⟨_, hv, .inl ⟨rfl, xs, .inl (.inl h3)⟩, ?_⟩
  refine h O Y H σ I _ fun b H' s hb hw => ?_
  obtain ⟨b', zs, e1, w2, wy, w3, w4⟩ := hw
  cases e1
  refine ⟨a, b, xs, zs, rfl, rfl, s _ _ h3, w3, by rw [h4.len, w4.len]; exact hz, E.nx _ _ _ k ⟨O, ?_, ?_⟩⟩
  · refine (I.mono s).change hi hv h2 ⟨a, xs ++ zs, rfl, h2, hy, upd_same, ?_⟩
    rw [cut_upd_in (List.mem_append_left _ h2)]
    exact (h4.mono (cut_mono s _)).app (w4.mono (cut_more fun x hx => List.mem_cons_of_mem _ hx))
  · rw [cut_upd_in h2]
    exact gg.trans (cut_mono s _)
theorem q_ext {p : Option Addr} {ds es : List Dt} (hi : ρ[i]? = some (.own p (.lst ds))) (h : EvN K te ρ (.lst es)) (hz : ds.length + es.length ≤ sizeLine) (k : Runs K u (ρ.set i (.own p (.lst (ds ++ es)))) P) :
    Runs K (tSeq (tDrop (tBM K "list" rExtend (tVar i) (tCons te tNil))) u) ρ P := r_seq (r_ext hi h hz k)
theorem q_put {α : Type} {F : α → Dt} {p : Option Addr} {l : List (Int × α)} {k : Int} {x : α} (hi : ρ[i]? = some (.own p (dkI F l))) (h : Ev K te ρ (F x)) (hk : Ev K tb ρ (.int k)) (hz : l.length < sizeLine) (q : Runs K u (ρ.set i (.own p (dkI F (aput l k x)))) P) :
    Runs K (tSeq (sDPut (tVar i) tb te) u) ρ P := r_seq (r_put hi h hk hz q)
end
/-! ### d.update(e) -/
def mergeK {κ : Type} [DecidableEq κ] (kvs more : List (κ × V)) : List (κ × V) := more.foldl (fun l p => putK l p.1 p.2) kvs
theorem KV.mergeK {κ : Type} [DecidableEq κ] {kvs more : List (κ × V)} {vs ws : List (κ × Value)} (r1 : KV kvs vs) (r2 : KV more ws) : KV (mergeK kvs more) (merged vs ws) := by
  unfold KV at r2
  unfold DL.mergeK merged
  induction r2 generalizing kvs vs with
  | nil => exact r1
  | @cons p q ps qs h t ih =>
    obtain ⟨h1, h2⟩ := h
    rw [List.foldl_cons, List.foldl_cons, ← h1]
    exact ih (KV.put r1 p.1 h2)
def tUpd (td ty : TE) : TE := fun σ H Q => td σ H fun x H1 => ∃ a, x = .ref a ∧ IsD H1 a ∧ ty σ H1 fun y H2 => ∃ b kvs more, y = .ref b ∧ a ≠ b ∧ H2 a = some (.dK kvs) ∧ Rd H2 b (.dK more) ∧ kvs.length + more.length ≤ sizeLine ∧ Q .non (upd H2 a (.dK (mergeK kvs more)))
theorem mergeK_len {κ : Type} [DecidableEq κ] (kvs more : List (κ × V)) : (mergeK kvs more).length ≤ kvs.length + more.length := by
  unfold mergeK
  induction more generalizing kvs with
  | nil => exact Nat.le_refl _
  | cons p ps ih =>
    have h1 := ih (putK kvs p.1 p.2)
    have h2 := length_putK kvs p.1 p.2
    rw [List.foldl_cons, List.length_cons]
    omega
theorem pe_upd {X : Cx} {o e : Expr} {apos cpos : Pos} {td ty : TE} (ho : PE X o td) (he : PE X e ty) (m : M1 X o "update" apos e cpos) : PE X (.Call (.Attribute o "update" apos) [e] [] cpos) (tUpd td ty) := by
  refine ⟨fun pn st sl hp Q inv hyp => ?_⟩
  refine wpAny_Call_method m.base m.few m.line PySem.F.plainAttrs_dict PySem.F.slot_dict_update PySem.F.type_dict_update (thn (ho.run pn st sl hp _ inv hyp) fun u s1 ⟨x, H1, I1, rx, a, ex, d, q1⟩ => ?_)
  subst ex
  obtain rfl : u = Value.ref a := rx
  obtain ⟨t1, t2, _⟩ := isD_at I1 d
  refine ⟨t1, t2, ?_⟩
  rw [m.trees]
  refine Calls.callWith_builtin rfl (Calls.evalArgs_plain (Calls.spliced_cons (thn (he.run pn s1 sl H1 _ I1 q1) fun iv s2 ⟨y, H2, I2, ry, b, kvs, more, ey, hab, ea, eb, hz, q2⟩ => Calls.spliced_nil ?_)))
  subst ey
  obtain rfl : iv = Value.ref b := ry
  obtain ⟨z1, hd1, vs, rel1, dd1⟩ := dk_of I2.hok ea
  obtain ⟨z2, hd2, ws, rel2, dd2⟩ := dk_rd I2.hok eb
  refine call_meetsIn PySem.F.slot_dict_update dd1.typeIs PySem.F.entry_dict_update (PySem.F.args_dict_update_2 _ _) (meets_dict_update (mixKind X.prog X.w) a b hab hd2) ⟨vs, ws, dd1, dd2, by rw [← KV.length rel1, ← KV.length rel2]; exact hz, fun h' dd' _ hs => ?_⟩
  have hex : ∃ q, h'.get? a = some q := let ⟨q, _, _, hq, _⟩ := dd'; ⟨q, hq⟩
  have hl : (mergeK kvs more).length ≤ sizeLine := Nat.le_trans (mergeK_len kvs more) hz
  exact ⟨.non, _, d_write I2 (by rw [ea]; exact True.intro) hs hex (dk_new hl hd1 (KV.mergeK rel1 rel2) dd'), rfl, q2⟩
section
variable {K : PySem.W.Frag} {ρ ρ' : List Sl} {P : Po} {te ta tb : TE} {t u : TS} {i : Nat}
def amerge {α : Type} (l m : List (Int × α)) : List (Int × α) := m.foldl (fun l p => aput l p.1 p.2) l
theorem mergeK_kvI (r z : List (Int × V)) : mergeK (kvI r) (kvI z) = kvI (amerge r z) := by
  unfold mergeK amerge
  induction z generalizing r with
  | nil => rfl
  | cons p ps ih =>
    rw [List.foldl_cons, ← ih, ← putK_kvI]
    rfl
theorem amerge_len {α : Type} (l m : List (Int × α)) : (amerge l m).length ≤ l.length + m.length := by
  unfold amerge
  induction m generalizing l with
  | nil => exact Nat.le_refl _
  | cons p ps ih =>
    have h1 := ih (aput l p.1 p.2)
    have h2 := aput_len l p.1 p.2
    rw [List.foldl_cons, List.length_cons]
    omega
theorem AHas.merge {H : Hp} {α : Type} {f : α → Dt} {m : List (Int × α)} {z : List (Int × V)} (h2 : AHas K H f m z) : ∀ {l : List (Int × α)} {r : List (Int × V)}, AHas K H f l r → AHas K H f (amerge l m) (amerge r z) := by
  unfold amerge
  induction h2 with
  | nil => exact fun h => h
  | cons hv _ ih => exact fun h => ih (h.put hv)
theorem em_upd {α : Type} {F : α → Dt} {p : Option Addr} {l m : List (Int × α)} (hi : ρ[i]? = some (.own p (dkI F l))) (h : Ev K tb ρ (dkI F m)) (hz : l.length + m.length ≤ sizeLine) : EvM K (tUpd (tVar i) tb) ρ .non (ρ.set i (.own p (dkI F (amerge l m)))) := fun O Y H σ I Q q => by
  obtain ⟨x0, hx0, ho, hp⟩ := I.own hi
  obtain ⟨a, r, rfl, h2, hay, h3, h4⟩ := ho.dkI
  refine ⟨_, hx0, a, rfl, .inl ⟨_, .inl h3⟩, h O Y H σ I _ fun y H2 s2 hy => ?_⟩
  obtain ⟨b, ys, rfl, g1, g2, g3⟩ := hy
  have g1' : Rd H2 b (.dK (kvI ((m.map (·.1)).zip ys))) := by
    have := (Same.rd (cut_le H2 (O ++ Y))).rd _ _ (show Bare (.dK _) from trivial) g1
    rw [zip_kvI m ys (by rw [List.length_map] at g2; exact g2)] at this
    exact this
  have hab : a ≠ b := fun z => by
    subst z
    have hin : a ∈ O ++ Y := List.mem_append_left _ h2
    rcases g1 with g | ⟨o, g⟩
    · rw [cut_in hin] at g; cases g
    · rw [cut_in hin] at g; cases g
  have g4 : AHas K (cut H2 (O ++ Y)) F m ((m.map (·.1)).zip ys) := AHas.of g3
  have h4' := h4.imp fun x v hv => hv.mono (cut_mono s2 _)
  refine ⟨b, _, _, rfl, hab, s2 _ _ h3, g1', by rw [kvI_len, kvI_len, h4.len, g4.len]; exact hz, q _ _ ?_ ?_ rfl⟩
  · refine (I.mono s2).change hi hx0 h2 ?_
    rw [mergeK_kvI]
    refine AHas.own (r := amerge r ((m.map (·.1)).zip ys)) ?_ upd_same h2 hay
    rw [cut_upd_in (List.mem_append_left _ h2)]
    exact g4.merge h4'
  · rw [cut_upd_in h2]
    exact cut_mono s2 _
end
end DL
namespace DL
open PySem PySem.Spec L2
def optD : Option Nat → Dt
  | none => .non
  | some i => .int (i : Int)
def natD (i : Nat) : Dt := .int (i : Int)
def nsD (l : List Nat) : List Dt := l.map natD
/-- the event at a place -/
def Tr.at (t : Tr) (i : Nat) : Evt := t.getD i ⟨0, .rd, 0⟩
theorem Tr.get {t : Tr} {i : Nat} (h : i < t.length) : (t.map encE)[i]? = some (encE (Tr.at t i)) := by
  rw [List.getElem?_map, List.getElem?_eq_getElem h]
  unfold Tr.at
  rw [List.getD_eq_getElem?_getD, List.getElem?_eq_getElem h]
  rfl
theorem Tr.at_get {t : Tr} {i : Nat} (h : i < t.length) : t[i]? = some (Tr.at t i) := by
  unfold Tr.at
  rw [List.getD_eq_getElem?_getD, List.getElem?_eq_getElem h]
  rfl
theorem Tr.at_take {t : Tr} {i n : Nat} (h : i < n) : Tr.at (t.take n) i = Tr.at t i := by
  unfold Tr.at
  rw [List.getD_eq_getElem?_getD, List.getD_eq_getElem?_getD, List.getElem?_take, if_pos h]
theorem encT_take (t : Tr) (n : Nat) : (t.map encE).take n = (t.take n).map encE := (List.map_take).symm
theorem enum_range (t : Tr) : (t.map encE).mapIdx encI = (List.range t.length).map fun i => encI i (encE (Tr.at t i)) := by
  apply List.ext_getElem?
  intro i
  rw [List.getElem?_mapIdx]
  by_cases h : i < t.length
  · rw [Tr.get h, List.getElem?_map, List.getElem?_range h]
    rfl
  · rw [List.getElem?_eq_none (show (t.map encE).length ≤ i by rw [List.length_map]; omega), List.getElem?_eq_none (by rw [List.length_map, List.length_range]; omega)]
    rfl
theorem nums_range (m k : Nat) : nums (m : Int) k = (List.range' m k).map natD := by
  unfold nums natD
  rw [List.range'_eq_map_range, List.map_map]
  apply List.map_congr_left
  intro i _
  show Dt.int ((m : Int) + i) = .int ((m + i : Nat) : Int)
  rw [Int.natCast_add]
theorem nums_range0 (k : Nat) : nums 0 k = (List.range k).map natD := by
  have := nums_range 0 k
  rw [List.range_eq_range']
  exact this
section
variable {K : PySem.W.Frag} {ρ : List Sl} {te ta tb : TE} {e : Evt} {t : Tr} {i : Nat} {d : Dt}
theorem ev_at (ha : Ev K ta ρ (encT t)) (hb : Ev K tb ρ (natD i)) (h : i < t.length) : Ev K (tOp (rIx K) ta tb) ρ (encE (Tr.at t i)) :=
  ev_op ha hb (rv_ixT ((atI_nat (by rw [List.length_map]; exact h)).trans (Tr.get h)))
theorem ev_th (h : Ev K te ρ (encE e)) : Ev K (tOp (rIx K) te (tC (.int 0))) ρ (.int e.th) := ev_op h ev_int (rv_ixT rfl)
theorem ev_nm (h : Ev K te ρ (encE e)) : Ev K (tOp (rIx K) te (tC (.int 1))) ρ (.str e.nm.s) := ev_op h ev_int (rv_ixT rfl)
theorem ev_tg (h : Ev K te ρ (encE e)) : Ev K (tOp (rIx K) te (tC (.int 2))) ρ (.int e.tg) := ev_op h ev_int (rv_ixT rfl)
theorem lay_nsD (l : List Nat) : lay 1 (.lst (nsD l)) = true := by
  rw [lay]
  refine lays_all fun d hd => ?_
  obtain ⟨i, _, rfl⟩ := List.mem_map.mp hd
  rfl
theorem deq_nil (l : List Nat) : deq (.lst (nsD l)) (.lst []) = l.isEmpty := by
  cases l with
  | nil => rfl
  | cons a l => rfl
theorem nsD_len (l : List Nat) : (nsD l).length = l.length := List.length_map _
/-- xs[0] if xs != [] else .. -/
theorem ev_first {k : Nat} {l : List Nat} (h : ρ[k]? = some (.dat (.lst (nsD l)))) (hb : l = [] → Ev K tb ρ d) : Ev K (tIf (tTest (tOp (rNeA K) (tVar k) (tLst tNil))) (tOp (rIx K) (tVar k) (tC (.int 0))) tb) ρ (match l.head? with | some j => natD j | none => d) := by
  refine ev_if (b := !l.isEmpty) (et_test ((ev_op (ev_var h) (ev_lst ea_nil (by decide)) (rv_neD (lay_nsD l) (m := 1) rfl)).is (by rw [deq_nil]))) (fun q => ?_) (fun q => ?_)
  · cases l with
    | nil => cases q
    | cons a l =>
      show Ev K _ ρ (natD a)
      exact ev_op (ev_var h) ev_int (rv_ixL (show atI (nsD (a :: l)) ((0 : Nat) : Int) = some (natD a) from (atI_nat (Nat.succ_pos _)).trans rfl))
  · cases l with
    | nil => exact hb rfl
    | cons a l => cases q
theorem ev_last {k : Nat} {l : List Nat} (h : ρ[k]? = some (.dat (.lst (nsD l)))) (hb : l = [] → Ev K tb ρ d) : Ev K (tIf (tTest (tOp (rNeA K) (tVar k) (tLst tNil))) (tOp (rIx K) (tVar k) (tUn (rU fun i => .int (-i)) (tC (.int 1)))) tb) ρ (match l.getLast? with | some j => natD j | none => d) := by
  refine ev_if (b := !l.isEmpty) (et_test ((ev_op (ev_var h) (ev_lst ea_nil (by decide)) (rv_neD (lay_nsD l) (m := 1) rfl)).is (by rw [deq_nil]))) (fun q => ?_) (fun q => ?_)
  · have hne : 0 < l.length := by
      cases l with
      | nil => cases q
      | cons a l => exact Nat.succ_pos _
    obtain ⟨x, hx⟩ : ∃ x, l[l.length - 1]? = some x := ⟨_, List.getElem?_eq_getElem (by omega)⟩
    rw [List.getLast?_eq_getElem?, hx]
    refine ev_op (ev_var h) (ev_unR ev_int.rd ru_I) (rv_ixL ((atI_last (by rw [nsD_len]; exact hne)).trans ?_))
    rw [nsD_len]
    show (l.map natD)[l.length - 1]? = some (natD x)
    rw [List.getElem?_map, hx]
    rfl
  · cases l with
    | nil => exact hb rfl
    | cons a l => cases q
end
theorem strOk_nm (m : Nm) : PyData.strOk m.s = true := by cases m <;> decide +kernel
theorem lay_nm (n : Nat) (m : Nm) : lay n (.str m.s) = true := by
  rw [lay]
  exact strOk_nm m
theorem lay_int (n : Nat) (i : Int) : lay n (.int i) = true := by simp [lay]
theorem lay_E (e : Evt) : lay 1 (encE e) = true := by
  unfold encE
  rw [lay, lays, lays, lays, lays, lay_nm, lay_int, lay_int]
  rfl
theorem lay_T (t : Tr) : lay 2 (encT t) = true := by
  unfold encT
  rw [lay]
  refine lays_all fun d hd => ?_
  obtain ⟨e, _, rfl⟩ := List.mem_map.mp hd
  exact lay_E e
theorem deq_int (i j : Int) : deq (.int i) (.int j) = decide (i = j) := by
  simp only [deq, pd, PyData.eqv]
  by_cases h : i = j <;> simp [h]
theorem deq_str (i j : Str) : deq (.str i) (.str j) = decide (i = j) := by
  simp only [deq, pd, PyData.eqv]
  by_cases h : i = j <;> simp [h]
theorem deq_tupC (a b : Dt) (as bs : List Dt) : deq (.tup (a :: as)) (.tup (b :: bs)) = (deq a b && deq (.tup as) (.tup bs)) := by
  simp only [deq, pd, pds, PyData.eqv, PyData.eqvAll]
theorem deq_tupN : deq (.tup []) (.tup []) = true := by
  simp only [deq, pd, pds, PyData.eqv, PyData.eqvAll]
theorem deq_E (e f : Evt) : deq (encE e) (encE f) = decide (e = f) := by
  unfold encE
  rw [deq_tupC, deq_tupC, deq_tupC, deq_tupN, deq_int, deq_str, deq_int, Nm.dec]
  obtain ⟨a, b, c⟩ := e
  obtain ⟨x, y, z⟩ := f
  by_cases h1 : a = x <;> by_cases h2 : b = y <;> by_cases h3 : c = z <;> simp [h1, h2, h3]
/-! ### what the trace's defs find -/
def evs (t : Tr) (th : Int) : List Nat := (List.range t.length).filter fun i => decide ((Tr.at t i).th = th)
def accs (t : Tr) (v : Int) : List Nat := (List.range t.length).filter fun i => (decide ((Tr.at t i).nm = .rd) || decide ((Tr.at t i).nm = .wr)) && decide ((Tr.at t i).tg = v)
def forkO (t : Tr) (th : Int) : Option Nat := ((List.range t.length).filter fun i => decide ((Tr.at t i).nm = .frk) && decide ((Tr.at t i).tg = th)).head?
def prevO (t : Tr) (i : Nat) : Option Nat := match (evs (t.take i) (Tr.at t i).th).getLast? with
  | some j => some j
  | none => forkO t (Tr.at t i).th
def writeO (t : Tr) (i : Nat) : Option Nat := ((accs (t.take i) (Tr.at t i).tg).filter fun j => decide ((Tr.at t j).nm = .wr)).getLast?
def Nm.ended : Nm → Nm
  | .acq => .rel
  | .sha => .uns
  | n => n
def Nm.takes : Nm → Bool
  | .acq => true
  | .sha => true
  | _ => false
def endO (t : Tr) (i : Nat) : Option Nat := ((List.range' (i + 1) (t.length - (i + 1))).filter fun j => decide (Tr.at t j = ⟨(Tr.at t i).th, (Tr.at t i).nm.ended, (Tr.at t i).tg⟩)).head?
def joinO (t : Tr) (i : Nat) : Option Nat := match (evs t (Tr.at t i).tg).getLast? with
  | some j => some j
  | none => forkO t (Tr.at t i).tg
def blk (t : Tr) (i j : Nat) : Bool := !(decide (i = j) || (!decide ((Tr.at t i).tg = (Tr.at t j).tg) || (!(Tr.at t i).nm.takes || !(Tr.at t j).nm.takes))) && !(decide ((Tr.at t i).nm = .sha) && decide ((Tr.at t j).nm = .sha))
def founds (t : Tr) (i : Nat) : List (Option Nat) := prevO t i :: (if (Tr.at t i).nm = .rd then [writeO t i] else if (Tr.at t i).nm = .jn then [joinO t i] else [])
def needs (t : Tr) (i : Nat) : List Int := isort ((dmade (fun o : Option Nat => o.isSome) (fun o => ((o.getD 0 : Nat) : Int)) (fun _ => true) (founds t i)).map (·.1))
def ends (t : Tr) : List (Int × Option Nat) := dmade (fun i => (Tr.at t i).nm.takes) (fun i : Nat => (i : Int)) (fun i => endO t i) (List.range t.length)
def tiesD (K : PySem.W.Frag) (t : Tr) : Dt := .ins (He.ga K "Ties") ["base", "needs", "ends"] [encT t, .lst ((List.range t.length).map fun i => .tup ((needs t i).map .int)), dkI optD (ends t)]
end DL
namespace DL
open PySem PySem.Spec L2
/-! ### keys -/
def akeys {α : Type} (l : List (Int × α)) : List Int := l.map (·.1)
theorem akeys_put {α : Type} (l : List (Int × α)) (k : Int) (v : α) : akeys (aput l k v) = if k ∈ akeys l then akeys l else akeys l ++ [k] := by
  unfold aput akeys
  have hm : (l.any fun p => decide (p.1 = k)) = true ↔ k ∈ l.map (·.1) := by
    rw [List.any_eq_true]
    constructor
    · rintro ⟨p, h1, h2⟩
      exact List.mem_map.mpr ⟨p, h1, of_decide_eq_true h2⟩
    · intro h
      obtain ⟨p, h1, h2⟩ := List.mem_map.mp h
      exact ⟨p, h1, decide_eq_true h2⟩
  by_cases h : (l.any fun p => decide (p.1 = k)) = true
  · rw [if_pos h, if_pos (hm.mp h), List.map_map]
    apply List.map_congr_left
    intro p _
    show (if p.1 = k then (p.1, v) else p).1 = p.1
    split <;> rfl
  · rw [if_neg h, if_neg fun z => h (hm.mpr z), List.map_append]
    rfl
theorem akeys_put_nd {α : Type} {l : List (Int × α)} (k : Int) (v : α) (h : (akeys l).Nodup) : (akeys (aput l k v)).Nodup := by
  rw [akeys_put]
  split
  · exact h
  · rename_i hk
    refine List.nodup_append.mpr ⟨h, by simp, fun a ha b hb z => ?_⟩
    rw [List.mem_singleton.mp hb] at z
    exact hk (by rw [← z]; exact ha)
theorem akeys_put_mem {α : Type} {l : List (Int × α)} (k j : Int) (v : α) : j ∈ akeys (aput l k v) ↔ j ∈ akeys l ∨ j = k := by
  rw [akeys_put]
  split
  · rename_i hk
    exact ⟨.inl, fun h => h.elim id fun z => by rw [z]; exact hk⟩
  · rw [List.mem_append, List.mem_singleton]
theorem akeys_merge_nd {α : Type} (m : List (Int × α)) : ∀ {l : List (Int × α)}, (akeys l).Nodup → (akeys (amerge l m)).Nodup := by
  unfold amerge
  induction m with
  | nil => exact fun h => h
  | cons p ps ih => exact fun h => ih (akeys_put_nd _ _ h)
theorem akeys_merge_mem {α : Type} (m : List (Int × α)) (j : Int) : ∀ {l : List (Int × α)}, j ∈ akeys (amerge l m) ↔ j ∈ akeys l ∨ j ∈ akeys m := by
  unfold amerge
  induction m with
  | nil => intro l; simp [akeys]
  | cons p ps ih =>
    intro l
    rw [List.foldl_cons, ih, akeys_put_mem]
    show _ ↔ _ ∨ j ∈ p.1 :: akeys ps
    rw [List.mem_cons, or_assoc]
theorem dmade_keys {α β : Type} (c : α → Bool) (k : α → Int) (v : α → β) (xs : List α) : (akeys (dmade c k v xs)).Nodup ∧ ∀ j, j ∈ akeys (dmade c k v xs) ↔ ∃ x ∈ xs, c x = true ∧ k x = j := by
  have key : ∀ (r : List α), (akeys (dmade c k v r.reverse)).Nodup ∧ ∀ j, j ∈ akeys (dmade c k v r.reverse) ↔ ∃ x ∈ r.reverse, c x = true ∧ k x = j := fun r => by
    induction r with
    | nil => exact ⟨by simp [dmade, akeys], fun j => by simp [dmade, akeys]⟩
    | cons x r ih =>
      rw [List.reverse_cons, dmade_snoc]
      obtain ⟨h1, h2⟩ := ih
      by_cases hc : c x = true
      · rw [if_pos hc]
        refine ⟨akeys_put_nd _ _ h1, fun j => ?_⟩
        rw [akeys_put_mem, h2]
        constructor
        · rintro (⟨y, a1, a2⟩ | rfl)
          · exact ⟨y, List.mem_append_left _ a1, a2⟩
          · exact ⟨x, List.mem_append_right _ (by simp), hc, rfl⟩
        · rintro ⟨y, a1, a2, a3⟩
          rcases List.mem_append.mp a1 with z | z
          · exact .inl ⟨y, z, a2, a3⟩
          · rw [List.mem_singleton.mp z] at a3
            exact .inr a3.symm
      · rw [if_neg hc]
        refine ⟨h1, fun j => ?_⟩
        rw [h2]
        constructor
        · rintro ⟨y, a1, a2⟩
          exact ⟨y, List.mem_append_left _ a1, a2⟩
        · rintro ⟨y, a1, a2, a3⟩
          rcases List.mem_append.mp a1 with z | z
          · exact ⟨y, z, a2, a3⟩
          · rw [List.mem_singleton.mp z] at a2
            exact absurd a2 hc
  have := key xs.reverse
  rw [List.reverse_reverse] at this
  exact this
theorem isort_usort {l ns : List Int} (h : l.Nodup) (hm : ∀ k, k ∈ l ↔ k ∈ ns) : isort l = usort ns := by
  refine usort_eq ?_ fun k => by rw [mem_isort, hm]
  have h1 : (isort l).Nodup := (List.mergeSort_perm l _).nodup_iff.mpr h
  refine (List.pairwise_iff_getElem).mpr fun i j hi hj hij => ?_
  have a1 := (List.pairwise_iff_getElem.mp h1) i j hi hj hij
  have a2 := (List.pairwise_iff_getElem.mp (isort_pw l)) i j hi hj hij
  exact Int.lt_iff_le_and_ne.mpr ⟨a2, a1⟩
/-! ### two targets at once -/
section
variable {K : PySem.W.Frag} {ρ : List Sl} {P : Po} {te ta tb : TE} {t u : TS} {i j : Nat} {d e : Dt}
theorem r_parDN (h1 : Ev K ta ρ d) (h2 : EvN K tb ρ e) (hij : i ≠ j) (k : P.nx ((ρ.set i (.dat d)).set j (.own none e))) : Runs K (tPar i j (tCons ta (tCons tb tNil))) ρ P := fun Y G σ H D ⟨O, I, g⟩ E =>
  h1 O Y H σ I _ fun v H1 s1 hv => h2 O Y H1 σ (I.mono s1) _ fun a H2 s2 hn ho => by
    have I1 : Env K O Y H1 (ρ.set i (.dat d)) (σ.set i (some v)) := (I.mono s1).put (s := .dat d) ⟨v, rfl, hv⟩ (fun _ _ z => by cases z)
    exact ⟨v, .ref a, rfl, E.nx _ _ _ k ⟨a :: O, I1.putNew s2 hn ho, new_cut I1 (g.trans (cut_mono s1 _)) s2 hn⟩⟩
theorem q_parDN (h1 : Ev K ta ρ d) (h2 : EvN K tb ρ e) (hij : i ≠ j) (k : Runs K u ((ρ.set i (.dat d)).set j (.own none e)) P) : Runs K (tSeq (tPar i j (tCons ta (tCons tb tNil))) u) ρ P := r_seq (r_parDN h1 h2 hij k)
theorem r_parNN (h1 : EvN K ta ρ d) (h2 : EvN K tb ρ e) (k : P.nx ((ρ.set i (.own none d)).set j (.own none e))) : Runs K (tPar i j (tCons ta (tCons tb tNil))) ρ P := fun Y G σ H D ⟨O, I, g⟩ E =>
  h1 O Y H σ I _ fun a H1 s1 hn ho => by
    have I1 := I.putNew (i := i) s1 hn ho
    have g1 := new_cut I g s1 hn
    obtain ⟨o3, h3⟩ : ∃ o, H1 a = some o := by
      cases q : H1 a with
      | none => exact absurd q (own_some ho).1
      | some o => exact ⟨o, rfl⟩
    have Ih := I.hide s1 hn h3
    refine h2 O (a :: Y) H1 σ Ih _ fun b H2 s2 hb ho2 => ?_
    have hbX := new_out Ih.dom hb
    have ho3 : OwnAt K (b :: a :: O) Y H2 e (.ref b) := own_in ho2 List.mem_cons_self (fun z => hbX (List.mem_append_right _ (List.mem_cons_of_mem _ z))) fun c hc => by
      simp only [List.mem_append, List.mem_cons, List.cons_append] at hc ⊢
      rcases hc with z | z | z | z
      · exact .inl z
      · exact .inr (.inr (.inl z))
      · exact .inr (.inl z)
      · exact .inr (.inr (.inr z))
    exact ⟨_, _, rfl, E.nx _ _ _ k ⟨b :: a :: O, I1.putNew s2 hb ho3, new_cut I1 g1 s2 hb⟩⟩
theorem q_parNN (h1 : EvN K ta ρ d) (h2 : EvN K tb ρ e) (k : Runs K u ((ρ.set i (.own none d)).set j (.own none e)) P) : Runs K (tSeq (tPar i j (tCons ta (tCons tb tNil))) u) ρ P := r_seq (r_parNN h1 h2 k)
end
/-! ### instances that are data once made -/
section
variable {K : PySem.W.Frag} {A : Type} {ρ : List Sl} {ta te : TA} {C : Addr} {args : A → List Dt} {dom : A → Prop} {res : A → Dt} {E : XK}
def spI (K : PySem.W.Frag) (C : Addr) (args : A → List Dt) (dom : A → Prop) (res : A → Dt) : Sp := fun vs H Q _ => ∃ z x dx r Y, vs = .ref x :: r ∧ H x = some (.ins C dx []) ∧ x ∉ Y ∧ (∀ b ∈ x :: Y, H b ≠ none) ∧ HasL K (cut H (x :: Y)) (args z) r ∧ dom z ∧
  ∀ H', Same (cut H [x]) (cut H' [x]) → Has K (cut H' Y) (res z) (.ref x) → Q .non H'
theorem ev_make (z : A) (h : EvA K ta ρ (args z)) (hd : dom z) : Ev K (tMake C (spI K C args dom res) [] E ta) ρ (res z) := fun O Y H σ I Q q => h O Y H σ I _ fun vs H1 s1 hv => by
  intro x dx hx hdx hne
  have s2 : Same H1 (upd (upd H1 dx (.own x)) x (.ins C dx [])) := (same_new hdx).trans (same_new (by rw [upd_ne hne.symm]; exact hx))
  have I1 := I.mono s1
  refine ⟨z, x, dx, vs, O ++ Y, by rw [List.append_nil], upd_same, new_out I1.dom hx, fun b hb => ?_, ?_, hd, fun H' s' hr => ⟨rfl, q _ H' (fun b o hb => ?_) hr⟩⟩
  · rcases List.mem_cons.mp hb with w | w
    · subst w; rw [upd_same]; exact fun w => by cases w
    · exact Same.dom s2 (I1.dom b w)
  · refine hv.mono fun b o hb => ?_
    obtain ⟨h1, h2⟩ := cut_some.mp hb
    refine cut_some.mpr ⟨fun w => ?_, s2 _ _ h2⟩
    rcases List.mem_cons.mp w with w | w
    · subst w; rw [hx] at h2; cases h2
    · exact h1 w
  · have h1 := s1 _ _ hb
    have hbx : b ≠ x := ne_of_none h1 hx
    exact (cut_some.mp (s' b o (cut_some.mpr ⟨by simp [hbx], s2 _ _ h1⟩))).2
/-- self.f = e, in a class's __init__ -/
theorem fld_b {Y : List Addr} {H : Hp} {σ : L2.St} {x dx : Addr} {fs : List (Str × V)} {f : Str} {tv : TE} {d : Dt} {D : L2.Ends} (I : Env K [] (x :: Y) H ρ σ) (h0 : σ[0]? = some (some (.ref x))) (hx : H x = some (.ins C dx fs)) (c : Cls K C) (n : NoAttr K C f) (hz : fs.length < 1000)
    (h : Ev K tv ρ d) (k : ∀ H' v, Env K [] (x :: Y) H' ρ σ → H' x = some (.ins C dx (putF f v fs)) → Has K (cut H' (x :: Y)) d v → Same (cut H [x]) (cut H' [x]) → D.nx σ H') : sFld K (tVar 0) tv f D σ H := by
  refine h [] (x :: Y) H σ I _ fun v H1 s1 hv => ⟨.ref x, h0, x, C, dx, fs, rfl, s1 _ _ hx, c, n, hz, ?_⟩
  have hc : cut (upd H1 x (.ins C dx (putF f v fs))) (x :: Y) = cut H1 (x :: Y) := cut_upd_in List.mem_cons_self
  have I1 := I.mono s1
  refine k _ v ?_ upd_same ?_ ?_
  · refine ⟨I1.len, fun j s hs => ?_, I1.sep, fun b hb => ?_⟩
    · obtain ⟨o, g1, g2⟩ := I1.ok j s hs
      refine ⟨o, g1, ?_⟩
      cases s with
      | un => trivial
      | dat e => obtain ⟨w, a1, a2⟩ := g2; exact ⟨w, a1, by show Has K (cut _ (x :: Y)) e w; rw [hc]; exact a2⟩
      | own p e =>
        obtain ⟨w, a1, a2, _⟩ := g2
        obtain ⟨b, _, hb⟩ := a2.ref
        cases hb
    · by_cases w : b = x
      · subst w; rw [upd_same]; exact fun w => by cases w
      · rw [upd_ne w]; exact I1.dom b hb
  · rw [hc]
    exact hv
  · rw [cut_upd_in (List.mem_singleton.mpr rfl)]
    exact cut_mono s1 _
end
end DL
namespace DL
open PySem PySem.Spec L2
theorem aput_new {α : Type} {l : List (Int × α)} {k : Int} {v : α} (h : k ∉ akeys l) : aput l k v = l ++ [(k, v)] := by
  unfold aput
  rw [if_neg]
  intro z
  obtain ⟨p, h1, h2⟩ := List.any_eq_true.mp z
  exact h (List.mem_map.mpr ⟨p, h1, of_decide_eq_true h2⟩)
/-- distinct keys: the pairs in their order -/
theorem dmade_map {α β : Type} (c : α → Bool) (k : α → Int) (v : α → β) (xs : List α) (h : ((xs.filter c).map k).Nodup) : dmade c k v xs = (xs.filter c).map fun x => (k x, v x) := by
  have key : ∀ (zs : List α) (l : List (Int × β)), (akeys l ++ zs.map k).Nodup → zs.foldl (fun l x => aput l (k x) (v x)) l = l ++ zs.map fun x => (k x, v x) := fun zs => by
    induction zs with
    | nil => intro l _; simp
    | cons z zs ih =>
      intro l hl
      have hz : k z ∉ akeys l := fun w => by
        rw [List.map_cons] at hl
        exact (List.nodup_append.mp hl).2.2 _ w _ List.mem_cons_self rfl
      rw [List.foldl_cons, aput_new hz, ih]
      · rw [List.map_cons, List.append_assoc]
        rfl
      · show (List.map (·.1) (l ++ [(k z, v z)]) ++ zs.map k).Nodup
        rw [List.map_append, List.append_assoc]
        exact hl
  exact (key _ [] (by simpa [akeys] using h)).trans (List.nil_append _)
theorem alook_map {α β : Type} {k : α → Int} {v : α → β} (hk : ∀ x y, k x = k y → x = y) : ∀ {xs : List α} {x : α}, x ∈ xs → alook (xs.map fun x => (k x, v x)) (k x) = some (v x)
  | [], _, h => by simp at h
  | y :: xs, x, h => by
    unfold alook
    rw [List.map_cons, List.find?_cons]
    by_cases e : k y = k x
    · rw [hk y x e]
      simp
    · simp only [e, decide_false]
      rcases List.mem_cons.mp h with z | z
      · exact absurd (by rw [z]) e
      · exact alook_map hk z
theorem nodup_nat_int {l : List Nat} (h : l.Nodup) : (l.map fun (i : Nat) => (i : Int)).Nodup := by
  refine List.pairwise_map.mpr (h.imp fun z w => z (by omega))
def takers (t : Tr) : List Nat := (List.range t.length).filter fun i => (Tr.at t i).nm.takes
theorem ends_eq (t : Tr) : ends t = (takers t).map fun (k : Nat) => ((k : Int), endO t k) :=
  dmade_map _ _ _ _ (nodup_nat_int (List.Pairwise.filter _ List.nodup_range))
theorem takers_mem {t : Tr} {k : Nat} : k ∈ takers t ↔ k < t.length ∧ (Tr.at t k).nm.takes = true := by
  unfold takers
  rw [List.mem_filter, List.mem_range]
theorem ends_look {t : Tr} {k : Nat} (h : k ∈ takers t) : alook (ends t) (k : Int) = some (endO t k) := by
  rw [ends_eq]
  exact alook_map (k := fun k : Nat => (k : Int)) (fun x y z => by omega) h
/-- the events that come right before one -/
def preds (t : Tr) (i : Nat) : List Nat := (([prevO t i] ++ (if (Tr.at t i).nm = .jn then [joinO t i] else [])) ++ ((takers t).filter fun k => decide (k < i) && blk t k i).map (endO t)).filterMap id
theorem made_some (l : List (Option Nat)) : made (fun o : Option Nat => o.isSome) optD l = nsD (l.filterMap id) := by
  unfold made nsD
  induction l with
  | nil => rfl
  | cons o l ih =>
    cases o with
    | none => simpa using ih
    | some k => simpa using ⟨rfl, ih⟩
def unitD : Unit → Dt := fun _ => .bl true
/-- what came before an event: those right before it, and theirs -/
def pastOf (found : List (List (Int × Unit))) (js : List Nat) : List (Int × Unit) := js.foldl (fun l (j : Nat) => amerge (aput l (j : Int) ()) (found.getD j [])) []
def pastsUp (t : Tr) : Nat → List (List (Int × Unit))
  | 0 => []
  | n + 1 => pastsUp t n ++ [pastOf (pastsUp t n) (preds t n)]
theorem pastsUp_len (t : Tr) : ∀ n, (pastsUp t n).length = n
  | 0 => rfl
  | n + 1 => by
    unfold pastsUp
    rw [List.length_append, pastsUp_len t n]
    rfl
/-- keys from 0 on, below n, each once -/
def Few (n : Nat) (l : List (Int × Unit)) : Prop := (akeys l).Nodup ∧ ∀ k ∈ akeys l, ∃ i : Nat, i < n ∧ k = (i : Int)
theorem Few.len {n : Nat} {l : List (Int × Unit)} (h : Few n l) : l.length ≤ n := by
  have h1 := List.Nodup.length_le_of_subset (l₁ := akeys l) (l₂ := (List.range n).map fun (i : Nat) => (i : Int)) h.1 fun k hk => by
    obtain ⟨i, a, b⟩ := h.2 k hk
    exact List.mem_map.mpr ⟨i, List.mem_range.mpr a, b.symm⟩
  rw [List.length_map, List.length_range] at h1
  unfold akeys at h1
  rw [List.length_map] at h1
  exact h1
theorem Few.nil (n : Nat) : Few n [] := ⟨by simp [akeys], fun k hk => by simp [akeys] at hk⟩
theorem Few.mono {n m : Nat} {l : List (Int × Unit)} (h : Few n l) (hm : n ≤ m) : Few m l := ⟨h.1, fun k hk => by obtain ⟨i, a, b⟩ := h.2 k hk; exact ⟨i, by omega, b⟩⟩
theorem Few.put {n j : Nat} {l : List (Int × Unit)} (h : Few n l) (hj : j < n) : Few n (aput l (j : Int) ()) := by
  refine ⟨akeys_put_nd _ _ h.1, fun k hk => ?_⟩
  rcases (akeys_put_mem _ _ _).mp hk with z | z
  · exact h.2 k z
  · exact ⟨j, hj, z⟩
theorem Few.merge {n : Nat} {l m : List (Int × Unit)} (h : Few n l) (hm : Few n m) : Few n (amerge l m) := by
  refine ⟨akeys_merge_nd _ h.1, fun k hk => ?_⟩
  rcases (akeys_merge_mem _ _).mp hk with z | z
  · exact h.2 k z
  · exact hm.2 k z
theorem few_past {n : Nat} {found : List (List (Int × Unit))} (hf : ∀ l ∈ found, Few n l) : ∀ {js : List Nat} {l : List (Int × Unit)}, (∀ j ∈ js, j < n) → Few n l → Few n (js.foldl (fun l (j : Nat) => amerge (aput l (j : Int) ()) (found.getD j [])) l)
  | [], l, _, h => h
  | j :: js, l, hj, h => by
    rw [List.foldl_cons]
    refine few_past hf (fun i hi => hj i (List.mem_cons_of_mem _ hi)) ((h.put (hj j List.mem_cons_self)).merge ?_)
    by_cases z : j < found.length
    · rw [List.getD_eq_getElem?_getD, List.getElem?_eq_getElem z]
      exact hf _ (List.getElem_mem z)
    · rw [List.getD_eq_getElem?_getD, List.getElem?_eq_none (by omega)]
      exact Few.nil n
theorem few_up (t : Tr) : ∀ n, (∀ i < n, ∀ j ∈ preds t i, j < i) → ∀ l ∈ pastsUp t n, Few n l
  | 0, _ => fun l hl => by cases hl
  | n + 1, h => fun l hl => by
    unfold pastsUp at hl
    have ih := few_up t n fun i hi => h i (by omega)
    rcases List.mem_append.mp hl with z | z
    · exact (ih l z).mono (by omega)
    · rw [List.mem_singleton.mp z]
      exact (few_past ih (h n (by omega)) (Few.nil n)).mono (by omega)
/-- every event right before another is before it -/
def Back (t : Tr) : Prop := ∀ i < t.length, ∀ j ∈ preds t i, j < i
def pasts (t : Tr) : List (List (Int × Unit)) := pastsUp t t.length
/-! ### clocks -/
/-- the threads of what is known at an event -/
def knownTh (t : Tr) (k : Nat) : List Int := ((pasts t).getD k []).map (fun p => (Tr.at t p.1.toNat).th) ++ [(Tr.at t k).th]
def clockAt (t : Tr) (k : Nat) : Dt := .tup ((usort (t.map (·.th))).map fun th => .int ((knownTh t k).count th : Nat))
def clocks (t : Tr) : List Dt := (List.range t.length).map (clockAt t)
def epochD (t : Tr) (i : Nat) : Dt := .tup [.int (Tr.at t i).th, natD (evs (t.take (i + 1)) (Tr.at t i).th).length]
theorem usort_len (ns : List Int) : (usort ns).length ≤ ns.length := by
  unfold usort
  rw [isort_len]
  have key : ∀ (n : Nat) (l : List Int), l.length ≤ n → l.eraseDups.length ≤ l.length := fun n => by
    induction n with
    | zero =>
      intro l hl
      cases l with
      | nil => simp [List.eraseDups]
      | cons a l => simp at hl
    | succ n ih =>
      intro l hl
      cases l with
      | nil => simp [List.eraseDups]
      | cons a l =>
        have h1 := List.length_filter_le (fun b => !b == a) l
        rw [List.length_cons] at hl
        have h2 := ih (l.filter fun b => !b == a) (by omega)
        rw [List.eraseDups_cons, List.length_cons, List.length_cons]
        omega
  exact key _ ns (Nat.le_refl _)
end DL
namespace DL
open PySem PySem.Spec L2
/-! ### products of any size -/
def rMulA : R2 := fun x y H Q => rI CMul (fun i j => .int (i * j)) x y H Q ∨ rI CMulW (fun i j => .int (i * j)) x y H Q
theorem op_mulA {X : Cx} : OpR X (binaryOp .Mult) rMulA := OpR.or2 op_mul op_mulW
section
variable {K : PySem.W.Frag}
theorem rv_mulA {i j : Int} (h : CMul i j) : RV K rMulA (.int i) (.int j) (.int (i * j)) := RV.inl (rv_I h)
theorem rv_mulB {i j : Int} (h : CMulW i j) : RV K rMulA (.int i) (.int j) (.int (i * j)) := RV.inr (rv_I h)
theorem rv_pow {i j : Int} (h : CPow i j) : RV K (rI CPow fun i j => .int (i ^ j.toNat)) (.int i) (.int j) (.int (i ^ j.toNat)) := rv_I h
end
/-! ### d.pop(k), keys that are tuples -/
def tDPopT (td ty : TE) : TE := fun σ H Q => td σ H fun x H1 => ∃ a, x = .ref a ∧ IsD H1 a ∧ ty σ H1 fun y H2 => ∃ kvs k b v, H2 a = some (.dT kvs) ∧ y = .ref b ∧ H2 b = some (.tup (k.map kV)) ∧ valV kvs k = some v ∧ Q v (upd H2 a (.dT (dropK kvs k)))
theorem pe_dpopT {X : Cx} {o e : Expr} {apos cpos : Pos} {td ty : TE} (hu : X.A.units + 1 < cLine) (ho : PE X o td) (he : PE X e ty) (m : M1 X o "pop" apos e cpos) : PE X (.Call (.Attribute o "pop" apos) [e] [] cpos) (tDPopT td ty) := by
  refine ⟨fun pn st sl hp Q inv hyp => ?_⟩
  refine wpAny_Call_method m.base m.few m.line PySem.F.plainAttrs_dict PySem.F.slot_dict_pop PySem.F.type_dict_pop (thn (ho.run pn st sl hp _ inv hyp) fun u z1 ⟨x, H1, I1, rx, a, ex, d, q1⟩ => ?_)
  subst ex
  obtain rfl : u = Value.ref a := rx
  obtain ⟨t1, t2, _⟩ := isD_at I1 d
  refine ⟨t1, t2, ?_⟩
  rw [m.trees]
  refine Calls.callWith_builtin rfl (Calls.evalArgs_plain (Calls.spliced_cons (thn (he.run pn z1 sl H1 _ I1 q1) fun iv z2 ⟨y, H2, I2, ry, kvs, k, b, v, ea, ey, eb, l, q2⟩ => Calls.spliced_nil ?_)))
  subst ey
  obtain rfl : iv = Value.ref b := ry
  obtain ⟨zl, hd, xs, rel, dd⟩ := dt_of I2.hok ea
  refine call_meetsIn PySem.F.slot_dict_pop dd.typeIs PySem.F.entry_dict_pop (PySem.F.args_dict_pop_2 _ _) (meetsH_dict_pop (tupleKind (mixKind X.prog X.w)) a b hd [] (.inl rfl))
    ⟨tupleKind_room_in1 hu, k, xs, key_of I2.hok eb, dd, by rw [← Paired.length rel]; exact zl, fun p hk h2 dd' hs => ?_, fun hn => ?_⟩
  · have r := rel.val k
    rw [l, hk] at r
    obtain ⟨ob, es, ep, g1, g2, g3, g4, _, g5⟩ := dd'
    refine ⟨v, _, ?_, r, q2⟩
    exact d_write I2 (by rw [ea]; exact True.intro) hs ⟨ob, g1⟩ ⟨Nat.le_trans (dropK_le kvs k) zl, hd, _, (DX.KT_drop k rel).keeps (fun c ys ec => (by rw [upd_ne (ne_of ec ea (fun z => nomatch z))]; exact ec)), ob, es, ep, g1, g2, g3, g4, g5⟩
  · have r := rel.val k
    rw [l, hn] at r
    exact (show False from r).elim
/-! ### dicts of pairs of whole numbers, used as sets -/
def kP (p : Int × Int) : List Key := [.inl p.1, .inl p.2]
def dtP (sh : List (Int × Int)) : Dt := .dt (sh.map kP) (sh.map fun _ => .bl true)
def kvP (sh : List (Int × Int)) : List (List Key × V) := sh.map fun p => (kP p, .bl true)
theorem kP_inj {p q : Int × Int} : kP p = kP q ↔ p = q := by
  obtain ⟨a, b⟩ := p
  obtain ⟨c, d⟩ := q
  unfold kP
  simp
theorem zip_kvP {K : PySem.W.Frag} {G : Hp} : ∀ {sh : List (Int × Int)} {xs : List V}, HasL K G (sh.map fun _ => Dt.bl true) xs → (sh.map kP).zip xs = kvP sh
  | [], _, _ => rfl
  | p :: sh, _, ⟨v, r, h1, h2, h3⟩ => by
    subst h1
    rw [List.map_cons, List.zip_cons_cons, zip_kvP h3]
    cases (show v = _ from h2)
    rfl
theorem kvP_has {K : PySem.W.Frag} {G : Hp} : ∀ {sh : List (Int × Int)}, HasL K G (sh.map fun _ => Dt.bl true) (sh.map fun _ => V.bl true)
  | [] => rfl
  | _ :: _ => ⟨_, _, rfl, rfl, kvP_has⟩
theorem kvP_zip : ∀ {sh : List (Int × Int)}, (sh.map kP).zip (sh.map fun _ => V.bl true) = kvP sh
  | [] => rfl
  | _ :: sh => by
    rw [List.map_cons, List.map_cons, List.zip_cons_cons, kvP_zip]
    rfl
def pput (sh : List (Int × Int)) (p : Int × Int) : List (Int × Int) := if p ∈ sh then sh else sh ++ [p]
theorem putK_kvP (sh : List (Int × Int)) (p : Int × Int) : putK (kvP sh) (kP p) (.bl true) = kvP (pput sh p) := by
  have ha : ((kvP sh).any fun kv => decide (kv.1 = kP p)) = true ↔ p ∈ sh := by
    unfold kvP
    rw [List.any_map, List.any_eq_true]
    constructor
    · rintro ⟨q, h1, h2⟩
      rw [← kP_inj.mp (of_decide_eq_true h2)]
      exact h1
    · intro h
      exact ⟨p, h, decide_eq_true rfl⟩
  unfold putK pput
  by_cases h : p ∈ sh
  · rw [if_pos (ha.mpr h), if_pos h]
    unfold kvP
    rw [List.map_map]
    apply List.map_congr_left
    intro q _
    show (if kP q = kP p then (kP q, V.bl true) else (kP q, V.bl true)) = _
    split <;> rfl
  · rw [if_neg (fun z => h (ha.mp z)), if_neg h]
    unfold kvP
    rw [List.map_append]
    rfl
theorem dropK_kvP (sh : List (Int × Int)) (p : Int × Int) : dropK (kvP sh) (kP p) = kvP (sh.filter fun q => decide (q ≠ p)) := by
  unfold dropK kvP
  rw [List.filter_map]
  congr 1
  apply List.filter_congr
  intro q _
  exact decide_eq_decide.mpr (not_congr kP_inj)
theorem valV_kvP (p : Int × Int) : ∀ sh : List (Int × Int), valV (kvP sh) (kP p) = if p ∈ sh then some (.bl true) else none
  | [] => rfl
  | q :: sh => by
    have ih := valV_kvP p sh
    by_cases e : q = p
    · show valV ((kP q, V.bl true) :: kvP sh) (kP p) = _
      rw [valV_pos (by rw [e]), if_pos (by simp [e])]
    · show valV ((kP q, V.bl true) :: kvP sh) (kP p) = _
      rw [valV_neg (show ¬ (kP q, V.bl true).1 = kP p from fun z => e (kP_inj.mp z)), ih]
      have : p ∈ q :: sh ↔ p ∈ sh := by
        rw [List.mem_cons]
        exact ⟨fun h => h.elim (fun z => absurd z.symm e) id, .inr⟩
      by_cases h : p ∈ sh
      · rw [if_pos h, if_pos (this.mpr h)]
      · rw [if_neg h, if_neg fun z => h (this.mp z)]
theorem kvP_len (sh : List (Int × Int)) : (kvP sh).length = sh.length := by unfold kvP; rw [List.length_map]
section
variable {K : PySem.W.Frag} {ρ : List Sl} {P : Po} {te ta tb : TE} {u : TS} {i : Nat} {d e : Dt}
theorem OwnAt.dtP {O Y : List Addr} {H : Hp} {sh : List (Int × Int)} {v : V} (h : OwnAt K O Y H (DL.dtP sh) v) : ∃ a, v = .ref a ∧ a ∈ O ∧ a ∉ Y ∧ H a = some (.dT (kvP sh)) := by
  obtain ⟨a, xs, e1, e2, e3, e4, e5, e6⟩ := h
  rw [zip_kvP e6] at e4
  exact ⟨a, e1, e2, e3, e4⟩
theorem own_dtP {O Y : List Addr} {H : Hp} {sh : List (Int × Int)} {a : Addr} (h1 : a ∈ O) (h2 : a ∉ Y) (h3 : H a = some (.dT (kvP sh))) : OwnAt K O Y H (DL.dtP sh) (.ref a) :=
  ⟨a, sh.map fun _ => V.bl true, rfl, h1, h2, by rw [kvP_zip]; exact h3, by rw [List.length_map, List.length_map], kvP_has⟩
theorem HasR.dtP {O Y : List Addr} {H : Hp} {sh : List (Int × Int)} {v : V} (h : HasR K O Y H (DL.dtP sh) v) : ∃ a, v = .ref a ∧ Rd H a (.dT (kvP sh)) := by
  obtain ⟨a, xs, e1, e2, e3, e4⟩ := h.dt
  rw [zip_kvP e4] at e2
  exact ⟨a, e1, e2⟩
theorem HasR.pair {O Y : List Addr} {H : Hp} {p : Int × Int} {v : V} (h : HasR K O Y H (.tup [.int p.1, .int p.2]) v) : ∃ b, v = .ref b ∧ H b = some (.tup ((kP p).map kV)) := by
  obtain ⟨b, xs, e1, e2, e3⟩ := h.tup
  have := HasL.ints (ns := [p.1, p.2]) e3
  subst this
  exact ⟨b, e1, cut_le _ _ _ _ e2⟩
theorem r_putT {o : Option Addr} {sh : List (Int × Int)} {p : Int × Int} (hi : ρ[i]? = some (.own o (dtP sh))) (h : Ev K te ρ (.bl true)) (hk : Ev K tb ρ (.tup [.int p.1, .int p.2])) (hz : sh.length < sizeLine) (q : P.nx (ρ.set i (.own o (dtP (pput sh p))))) :
    Runs K (sDPut (tVar i) tb te) ρ P := fun Y G σ H D ⟨O, I, gg⟩ E => h O Y H σ I _ fun v H1 s1 hv => by
  cases (show v = _ from hv)
  have I1 := I.mono s1
  obtain ⟨x0, hx, ho, hp⟩ := I1.own hi
  refine ⟨x0, hx, hk O Y H1 σ I1 _ fun y H2 s2 hy => ?_⟩
  have I2 := I1.mono s2
  obtain ⟨b, rfl, hb⟩ := HasR.pair (.inl hy)
  obtain ⟨a, rfl, h2, hay, h3⟩ := (ho.mono s2).dtP
  refine ⟨a, _, rfl, .inr ⟨kvP sh, kP p, b, h3, rfl, hb, by rw [kvP_len]; exact hz, rfl⟩, E.nx _ _ _ q ⟨O, ?_, ?_⟩⟩
  · refine I2.change hi hx h2 ?_
    rw [putK_kvP]
    exact own_dtP h2 hay upd_same
  · rw [cut_upd_in h2]
    exact gg.trans (cut_mono (s1.trans s2) _)
theorem em_popT {o : Option Addr} {sh : List (Int × Int)} {p : Int × Int} (hi : ρ[i]? = some (.own o (dtP sh))) (hk : Ev K tb ρ (.tup [.int p.1, .int p.2])) (hx : p ∈ sh) : EvM K (tDPopT (tVar i) tb) ρ (.bl true) (ρ.set i (.own o (dtP (sh.filter fun q => decide (q ≠ p))))) := fun O Y H σ I Q q => by
  obtain ⟨x0, hx0, ho, hp⟩ := I.own hi
  obtain ⟨a, rfl, h2, hay, h3⟩ := ho.dtP
  refine ⟨_, hx0, a, rfl, .inr ⟨_, .inl h3⟩, hk O Y H σ I _ fun y H2 s2 hy => ?_⟩
  obtain ⟨b, rfl, hb⟩ := HasR.pair (.inl hy)
  refine ⟨kvP sh, kP p, b, .bl true, s2 _ _ h3, rfl, hb, by rw [valV_kvP, if_pos hx], q _ _ ?_ ?_ rfl⟩
  · refine (I.mono s2).change hi hx0 h2 ?_
    rw [dropK_kvP]
    exact own_dtP h2 hay upd_same
  · rw [cut_upd_in h2]
    exact cut_mono s2 _
theorem rv_inT {sh : List (Int × Int)} {p : Int × Int} : RV K (rInA K) (.tup [.int p.1, .int p.2]) (dtP sh) (.bl (decide (p ∈ sh))) := RV.inr (RV.inr fun O Y H x y dm hx hy Q q => by
  obtain ⟨b, rfl, hb⟩ := hx.pair
  obtain ⟨a, rfl, ha⟩ := hy.dtP
  refine ⟨a, _, rfl, .inr ⟨kvP sh, kP p, b, ha, rfl, hb, rfl⟩, q _ H (Same.refl H) ?_⟩
  rw [valV_kvP]
  by_cases h : p ∈ sh <;> simp [h, Has])
theorem rv_notinT {sh : List (Int × Int)} {p : Int × Int} : RV K (rNotInA K) (.tup [.int p.1, .int p.2]) (dtP sh) (.bl (!decide (p ∈ sh))) := RV.inr (RV.inr fun O Y H x y dm hx hy Q q => by
  obtain ⟨b, rfl, hb⟩ := hx.pair
  obtain ⟨a, rfl, ha⟩ := hy.dtP
  refine ⟨a, _, rfl, .inr ⟨kvP sh, kP p, b, ha, rfl, hb, rfl⟩, q _ H (Same.refl H) ?_⟩
  rw [valV_kvP]
  by_cases h : p ∈ sh <;> simp [h, Has])
end
/-! ### defs that answer a new object -/
section
variable {K : PySem.W.Frag} {ρ : List Sl} {P : Po} {te ta tb : TE} {t u : TS} {i : Nat} {d e : Dt} {R : Dt → Prop}
def RunsN (K : PySem.W.Frag) (ts : TS) (ρ : List Sl) (R : Dt → Prop) : Prop := ∀ Y G σ H D, Sta K Y G ρ σ H → (∀ d a H', R d → Same G (cut H' [a]) → G a = none → OwnAt K [a] Y H' d (.ref a) → D.rt (.ref a) H') → ts D σ H
theorem n_seq (h : Runs K t ρ { nx := fun ρ' => RunsN K u ρ' R }) : RunsN K (tSeq t u) ρ R := fun Y G σ H D S E =>
  h Y G σ H { D with nx := u D } S ⟨fun ρ' σ' H' hr hs => hr Y G σ' H' D hs E, fun _ _ _ _ _ z => z.elim, fun _ _ _ z => z.elim, fun _ _ _ z => z.elim⟩
theorem n_ret (h : EvN K te ρ d) (k : R d) : RunsN K (tRet te) ρ R := fun Y G σ H D ⟨O, I, g⟩ E => h O Y H σ I _ fun a H' s hn ho => by
  have gn : G a = none := by
    cases q : G a with
    | none => rfl
    | some o => rw [(cut_some.mp (g a o q)).2] at hn; cases hn
  have haX := new_out I.dom hn
  refine E d a H' k (fun b o hb => ?_) gn (own_in ho (by simp) (fun z => haX (List.mem_append_right _ z)) fun b hb => ?_)
  · refine cut_some.mpr ⟨fun z => ?_, s _ _ (cut_some.mp (g b o hb)).2⟩
    rw [List.mem_singleton.mp z, gn] at hb
    cases hb
  · rcases List.mem_append.mp hb with z | z
    · rw [List.mem_singleton.mp z]; exact List.mem_append_left _ List.mem_cons_self
    · exact List.mem_append_right _ z
theorem n_retOwn (hi : ρ[i]? = some (.own none d)) (k : R d) : RunsN K (tRet (tVar i)) ρ R := fun Y G σ H D ⟨O, I, g⟩ E => by
  obtain ⟨v, hv, ho, _⟩ := I.own hi
  obtain ⟨a, rfl, ha⟩ := ho.ref
  obtain ⟨_, hay, _⟩ := own_some ho
  have gn : G a = none := by
    cases q : G a with
    | none => rfl
    | some o => exact absurd ha (cut_some.mp (g a o q)).1
  refine ⟨_, hv, E d a H k (fun b o hb => ?_) gn (own_in ho (by simp) hay fun b hb => ?_)⟩
  · refine cut_some.mpr ⟨fun z => ?_, (cut_some.mp (g b o hb)).2⟩
    rw [List.mem_singleton.mp z, gn] at hb
    cases hb
  · rcases List.mem_append.mp hb with z | z
    · rw [List.mem_singleton.mp z]; exact List.mem_append_left _ ha
    · exact List.mem_append_right _ z
end
section
variable {P : Program} {w : World} {K : PySem.W.Frag} {mg : Str → Option Value} {base : Heap} {A : Type} {args : A → List Dt} {dom : A → Prop} {R : A → Dt → Prop}
theorem fn_n {x qual : Str} {st : Stmt} {f : Addr} {fd : FuncData} {N ps : List Str} {k : Nat} (F : FnOf K x qual st f fd) (S : FnScope N ps (defScope st)) (hl : ∀ x, (args x).length = ps.length) (t : TS)
    (hb : ∀ (cdv : Value) (A : Around) (outer : List PySem.Env) (s : Shared) (H : Hp) (E : XK), Room k (A.deeper (PyProof.Rows.envOfC qual (defScope st) s.heap.objs.size f cdv)) → PSs (cxOf CX0 P w K mg base N qual (defScope st) f cdv A outer s H E).nox (defBody st) t)
    (hn : ps.length ≤ N.length) (run : ∀ x, dom x → ∀ (Y : List Addr) (H : Hp) (σ : L2.St) (D : L2.Ends), Sta K Y H ((args x).map .dat ++ List.replicate (N.length - ps.length) .un) σ H → (∀ d a H', R x d → Same H (cut H' [a]) → H a = none → OwnAt K [a] Y H' d (.ref a) → D.rt (.ref a) H') → t D σ H) :
    FnOk P w K mg base CX0 (k + 1) f fd ps (spGN K args dom R) := by
  refine FunD.ok F S (fun vs H Q E h => ?_) (fun cdv A outer s H vs Q E hr h => ⟨t, (hb cdv A outer s H E hr).nox, ?_⟩)
  · obtain ⟨z, Y, _, h1, _⟩ := h
    rw [h1.len, hl]
  · obtain ⟨z, Y, hY, h1, hd, q⟩ := h
    refine run z hd Y H _ _ ⟨[], env_start hY h1 (by rw [hl]; omega), by rw [cut_nil]; exact Same.refl _⟩ fun d a H' hx s hn ho => q d a H' hx (s.trans (cut_le _ _)) hn ho
theorem r_asgGN {ρ : List Sl} {Po : Po} {ta : TA} {E : XK} {i : Nat} (x : A) (h : EvA K ta ρ (args x)) (hd : dom x) (k : ∀ d, R x d → Po.nx (ρ.set i (.own none d))) : Runs K (tAsg (tCall (spGN K args dom R) [] E ta) (gName i)) ρ Po := fun Y G σ H D ⟨O, I, g⟩ EE => h O Y H σ I _ fun vs H1 s1 hv => by
  refine ⟨x, O ++ Y, dom_mono I.dom s1, by rw [List.append_nil]; exact hv, hd, fun d a H' hR s hn ho => ?_⟩
  have I1 := I.mono s1
  have haX := new_out I1.dom hn
  have ho2 : OwnAt K (a :: O) Y H' d (.ref a) := own_in ho List.mem_cons_self (fun z => haX (List.mem_append_right _ z)) fun b hb => by
    simp only [List.mem_append, List.mem_cons, List.cons_append, List.mem_singleton, List.not_mem_nil, false_or] at hb ⊢
    exact hb
  exact EE.nx _ _ _ (k d hR) ⟨a :: O, I1.putNew s hn ho2, new_cut I1 (g.trans (cut_mono s1 _)) s hn⟩
end
theorem et_andF {K : PySem.W.Frag} {ρ : List Sl} {t u : TT} (h : EvT K t ρ false) : EvT K (tAnd t u) ρ false := et_and (b := false) h fun z => by cases z
theorem lay_nt (m : Nm) (i : Int) : lay 1 (.tup [.str m.s, .int i]) = true := by
  rw [lay, lays, lays, lays, lay_nm, lay_int]
  rfl
theorem deq_nt (m n : Nm) (i j : Int) : deq (.tup [.str m.s, .int i]) (.tup [.str n.s, .int j]) = (decide (m = n) && decide (i = j)) := by
  rw [deq_tupC, deq_tupC, deq_tupN, deq_int, deq_str, Nm.dec, Bool.and_true]
theorem ag_imp {K : PySem.W.Frag} {ρ : List Sl} {ta : TA} {P1 P2 : List Dt → List Sl → Prop} (h : EvAG K ta ρ P1) (k : ∀ ds ρ', P1 ds ρ' → P2 ds ρ') : EvAG K ta ρ P2 := fun O Y H σ I Q q => h O Y H σ I Q fun ds ρ' vs H' p I' s hv => q ds ρ' vs H' (k ds ρ' p) I' s hv
/-! ### xs.index(k) -/
theorem eqV_int (a b : Int) : eqV (V.int a) (V.int b) = (a == b) := rfl
theorem all_flat : ∀ ns : List Int, (ns.map V.int).all flatV = true
  | [] => rfl
  | _ :: ns => by
    rw [List.map_cons, List.all_cons, all_flat ns]
    rfl
theorem ev_index {K : PySem.W.Frag} {ρ : List Sl} {ta tb : TE} {ns : List Int} {k : Int} (h : EvR K ta ρ (.lst (ns.map .int))) (hb : Ev K tb ρ (.int k)) (hk : k ∈ ns) : Ev K (tBM K "list" (rIndex K) ta (tCons tb tNil)) ρ (natD (ns.idxOf k)) := fun O Y H σ I Q q =>
  h O Y H σ I _ fun v H1 s1 hv => ⟨ty_list hv, hb O Y H1 σ (I.mono s1) _ fun y H2 s2 hy => by
    cases (show y = _ from hy)
    obtain ⟨a, xs, rfl, h1, h2⟩ := hv.lst
    have e := h2.ints
    subst e
    have hlt := List.idxOf_lt_length_iff.mpr hk
    refine ⟨a, ns.map V.int, .int k, ns.idxOf k, .int k, rfl, rfl, .inl ((Same.rd s2).rd _ _ trivial h1), rfl, all_flat ns, ?_, by rw [eqV_int]; exact beq_self_eq_true k, fun m z hm hz => ?_, q _ H2 (s1.trans s2) rfl⟩
    · rw [List.getElem?_map, List.getElem?_eq_getElem hlt, List.getElem_idxOf hlt]
      rfl
    · rw [List.getElem?_map] at hz
      have hm2 : m < ns.length := by omega
      rw [List.getElem?_eq_getElem hm2] at hz
      cases hz
      rw [eqV_int]
      have := List.not_of_lt_findIdx (show m < ns.findIdx (· == k) from hm)
      exact Bool.eq_false_iff.mpr (by simpa using this)⟩
end DL
namespace DL
open PySem PySem.Spec L2
section
variable {K : PySem.W.Frag} {ρ : List Sl}
def pairOf (p : Dt × Dt) : Dt := .tup [p.1, p.2]
/-- zip of two tuples -/
theorem ei_zipT {r : TA} {ds es : List Dt} (h : EvA K r ρ [.tup ds, .tup es]) : EvI K (RZ.iZipA K r) ρ ((ds.zip es).map pairOf) := fun O Y H σ I R q => h O Y H σ I _ fun vs H1 s1 hv => by
  obtain ⟨v, r', e1, ⟨a, xs, rfl, h2, h3⟩, w, r2, e2, ⟨b, ys, rfl, g2, g3⟩, e3⟩ := hv
  cases e3
  cases e2
  cases e1
  refine ⟨a, b, xs, ys, rfl, .inr ⟨SqT.of (cut_le _ _ _ _ h2), SqT.of (cut_le _ _ _ _ g2), q _ H1 s1 fun i H' O' s hd => ?_⟩⟩
  have ha : SqT K H' a xs := SqT.of (cut_le _ _ _ _ (s _ _ h2))
  have hb : SqT K H' b ys := SqT.of (cut_le _ _ _ _ (s _ _ g2))
  have hl : ((ds.zip es).map pairOf).length = min xs.length ys.length := by rw [List.length_map, List.length_zip, h3.len, g3.len]
  rw [hl]
  refine ⟨fun hi => ?_, fun hi => ⟨xs, ys, ha, hb, by omega⟩, fun x H'' hy => ?_⟩
  · have hx : i < xs.length := by omega
    have hy : i < ys.length := by omega
    exact ⟨xs, ys, xs[i], ys[i], ha, hb, List.getElem?_eq_getElem hx, List.getElem?_eq_getElem hy⟩
  · obtain ⟨T, x0, y0, rfl, hT, rfl, k1, k2⟩ := hy
    refine ⟨same_new hT, fun d hd2 => ?_⟩
    rw [List.getElem?_map] at hd2
    obtain ⟨p, p1, p2⟩ := Option.map_eq_some_iff.mp hd2
    subst p2
    obtain ⟨q1, q2⟩ := List.getElem?_zip_eq_some.mp p1
    obtain ⟨v1, m1, m2⟩ := h3.get q1
    obtain ⟨v2, n1, n2⟩ := g3.get q2
    have e4 := k1 xs ha
    have e5 := k2 ys hb
    rw [m1] at e4
    rw [n1] at e5
    cases e4
    cases e5
    exact ⟨T, _, rfl, cut_new hd hT, _, _, rfl, m2.mono (s.trans (cut_mono (same_new hT) _)), _, _, rfl, n2.mono (s.trans (cut_mono (same_new hT) _)), rfl⟩
/-! ### comprehensions of two walks -/
def made2 {α β : Type} (c : α → Bool) (ys : α → List β) (c1 : α → β → Bool) (f : α → β → Dt) (xs : List α) : List Dt := xs.flatMap fun x => if c x = true then made (c1 x) (f x) (ys x) else []
theorem made2_snoc {α β : Type} {c : α → Bool} {ys : α → List β} {c1 : α → β → Bool} {f : α → β → Dt} {xs : List α} {x : α} : made2 c ys c1 f (xs ++ [x]) = made2 c ys c1 f xs ++ (if c x = true then made (c1 x) (f x) (ys x) else []) := by
  unfold made2
  rw [List.flatMap_append]
  simp
structure Lc2Turn (K : PySem.W.Frag) {β : Type} (g : TG) (tt : TT) (wi1 : TI) (g1 : TG) (tt1 : TT) (te : TE) (vs vs1 : List Nat) (ρ : List Sl) (d : Dt) (b : Bool) (en1 : β → Dt) (ys : List β) (c1 : β → Bool) (f : β → Dt) : Prop where
  ex : ∃ sl ρ', (∀ i ∈ sl, i ∈ vs) ∧ Tg K g sl d (wipeS ρ vs) ρ' ∧ EvT K tt ρ' b ∧ (b = true → EvI K wi1 ρ' (ys.map en1) ∧ ∀ y ∈ ys, LcTurn K g1 tt1 te vs1 ρ' (en1 y) (c1 y) (f y))
theorem en_lc2 {α β : Type} {wi wi1 : TI} {g g1 : TG} {tt tt1 : TT} {te : TE} {vs vs1 : List Nat} (en : α → Dt) (en1 : β → Dt) (xs : List α) (ys : α → List β) (c : α → Bool) (c1 : α → β → Bool) (f : α → β → Dt) (h : EvIR K wi ρ (xs.map en))
    (ht : ∀ x ∈ xs, Lc2Turn K g tt wi1 g1 tt1 te vs vs1 ρ (en x) (c x) en1 (ys x) (c1 x) (f x)) (hz : (made2 (fun _ => true) ys (fun _ _ => true) f xs).length < sizeLine) : EvN K (tLc2 wi g tt wi1 g1 tt1 te vs vs1) ρ (.lst (made2 c ys c1 f xs)) := fun O Y H σ I Q q => by
  refine h O Y H σ I _ fun J H1 s1 w => fun D hD => ?_
  have hDn : H D = none := s1.free hD
  have hDX : D ∉ O ++ Y := new_out (dom_mono I.dom s1) hD
  have I1 := I.mono s1
  -- sizes
  have small : ∀ (i : Nat) (x : α) (j : Nat), xs[i]? = some x → (made2 c ys c1 f (xs.take i)).length + (made (c1 x) (f x) ((ys x).take j)).length ≤ (made2 (fun _ => true) ys (fun _ _ => true) f xs).length := fun i x j hx => by
    have le1 : ∀ l : List α, (made2 c ys c1 f l).length ≤ (made2 (fun _ => true) ys (fun _ _ => true) f l).length := fun l => by
      unfold made2
      rw [List.length_flatMap, List.length_flatMap]
      induction l with
      | nil => exact Nat.le_refl _
      | cons a l ih =>
        rw [List.map_cons, List.map_cons, List.sum_cons, List.sum_cons]
        have h1 : (if c a = true then made (c1 a) (f a) (ys a) else []).length ≤ (if true = true then made (fun _ => true) (f a) (ys a) else []).length := by
          rw [if_pos rfl, made_all, List.length_map]
          split
          · exact made_len _ _ _
          · exact Nat.zero_le _
        exact Nat.add_le_add h1 ih
    have e1 : xs = xs.take i ++ x :: xs.drop (i + 1) := by
      have hi := (List.getElem?_eq_some_iff.mp hx)
      obtain ⟨hl, hv⟩ := hi
      rw [← hv, List.getElem_cons_drop, List.take_append_drop]
    have e2 : (made2 (fun _ => true) ys (fun _ _ => true) f xs).length = (made2 (fun _ => true) ys (fun _ _ => true) f (xs.take i)).length + ((ys x).length + (made2 (fun _ => true) ys (fun _ _ => true) f (xs.drop (i + 1))).length) := by
      conv => lhs; rw [e1]
      unfold made2
      rw [List.flatMap_append, List.flatMap_cons, List.length_append, List.length_append, if_pos rfl, made_all, List.length_map]
    have h3 := le1 (xs.take i)
    have h4 := made_len (c1 x) (f x) ((ys x).take j)
    rw [List.length_take] at h4
    omega
  have perm : ∀ (H' : Hp), cut H' (O ++ (D :: Y)) = cut H' (D :: O ++ Y) := fun H' => cut_perm fun b => by
    simp only [List.mem_append, List.mem_cons, List.cons_append]
    constructor
    · rintro (z | z | z) <;> simp [z]
    · rintro (z | z | z) <;> simp [z]
  have perm2 : ∀ (H' : Hp), cut H' ((O ++ [D]) ++ Y) = cut H' (O ++ (D :: Y)) := fun H' => by rw [List.append_assoc]; rfl
  refine ⟨fun i m H2 => m = xs.length - i ∧ i ≤ xs.length ∧ Same H1 H2 ∧ ∃ ws, H2 D = some (.lst ws) ∧ HasL K (cut H2 (D :: O ++ Y)) (made2 c ys c1 f (xs.take i)) ws, ⟨xs.length, by omega, by omega, same_new hD, [], upd_same, by unfold made2; rfl⟩, fun i m H2 hW => ?_⟩
  obtain ⟨hm, hi, s2, ws, hws, hh⟩ := hW
  have dmZ : ∀ a ∈ (O ++ [D]) ++ Y, H2 a ≠ none := fun a ha => by
    simp only [List.mem_append, List.mem_singleton] at ha
    rcases ha with (z | z) | z
    · exact Same.dom s2 (I1.dom a (List.mem_append_left _ z))
    · subst z
      rw [hws]
      exact fun z => by cases z
    · exact Same.dom s2 (I1.dom a (List.mem_append_right _ z))
  obtain ⟨w1, w2, w3⟩ := w i H2 [D] s2 (fun a ha => by rw [List.mem_singleton.mp ha]; exact hD) dmZ
  rw [List.length_map] at w1 w2
  by_cases hlt : i < xs.length
  · refine .inr ⟨w1 hlt, fun H3 => Same H1 H3 ∧ ∃ ws, H3 D = some (.lst ws) ∧ HasL K (cut H3 (D :: O ++ Y)) (made2 c ys c1 f (xs.take (i + 1))) ws, fun H3 ⟨a1, a2⟩ => ⟨xs.length - (i + 1), by omega, rfl, hlt, a1, a2⟩, fun x H3 hy => ?_⟩
    obtain ⟨s3, w4⟩ := w3 x H3 hy
    have hx : xs[i]? = some xs[i] := List.getElem?_eq_getElem hlt
    obtain ⟨sl, ρ', hsl, tg, ett, ete⟩ := (ht xs[i] (List.getElem_mem hlt)).ex
    have hdd : (xs.map en)[i]? = some (en xs[i]) := by rw [List.getElem?_map, hx]; rfl
    have tk : xs.take (i + 1) = xs.take i ++ [xs[i]] := by rw [List.take_add_one, hx]; rfl
    have s13 : Same H1 H3 := s2.trans s3
    have hws3 : H3 D = some (.lst ws) := s3 _ _ hws
    have I3 : Env K O (D :: Y) H3 ρ σ := I1.hide s13 hD hws3
    have hit : Has K (cut H3 (O ++ (D :: Y))) (en xs[i]) x := by
      have := w4 _ hdd
      rw [perm2] at this
      exact this
    refine tg O (D :: Y) H3 (wipe σ vs) x (I3.wipe vs) hit _ fun σ4 I4 l4 k4 => ⟨wipe_set l4 fun k hk => k4 k fun z => hk (hsl k z), ?_⟩
    refine ett O (D :: Y) H3 σ4 I4 _ fun H4 s4 => ?_
    rw [tk, made2_snoc]
    generalize hx0 : xs[i] = x0 at hx ete
    have hh4 : HasL K (cut H4 (D :: O ++ Y)) (made2 c ys c1 f (xs.take i)) ws := hh.mono (cut_mono (s3.trans s4) _)
    by_cases hc : c x0 = true
    · rw [if_pos hc, if_pos hc]
      obtain ⟨ei, et⟩ := ete hc
      refine ei O (D :: Y) H4 σ4 (I4.mono s4) _ fun J1 H5 s5 v1 => ?_
      have s15 : Same H1 H5 := s13.trans (s4.trans s5)
      have I5 : Env K O (D :: Y) H5 ρ' σ4 := I4.mono (s4.trans s5)
      refine ⟨fun j m H6 => m = (ys x0).length - j ∧ j ≤ (ys x0).length ∧ Same H1 H6 ∧ Same (cut H5 (O ++ (D :: Y))) (cut H6 (O ++ (D :: Y))) ∧ Env K O (D :: Y) H6 ρ' σ4 ∧ ∃ ws, H6 D = some (.lst ws) ∧ HasL K (cut H6 (D :: O ++ Y)) (made2 c ys c1 f (xs.take i) ++ made (c1 x0) (f x0) ((ys x0).take j)) ws, ⟨(ys x0).length, by omega, by omega, s15, Same.refl _, I5, ws, s5 _ _ (s4 _ _ hws3), by rw [List.take_zero]; unfold made; rw [List.filter_nil, List.map_nil, List.append_nil]; exact hh4.mono (cut_mono s5 _)⟩, fun j m H6 hV => ?_⟩
      obtain ⟨_, hj, s6, c6, I6, us, hus, gg⟩ := hV
      obtain ⟨z1, z2, z3⟩ := v1 j H6 O c6 I6.dom
      rw [List.length_map] at z1 z2
      by_cases hjl : j < (ys x0).length
      · refine .inr ⟨z1 hjl, fun H7 => Same H1 H7 ∧ Same (cut H5 (O ++ (D :: Y))) (cut H7 (O ++ (D :: Y))) ∧ Env K O (D :: Y) H7 ρ' σ4 ∧ ∃ ws, H7 D = some (.lst ws) ∧ HasL K (cut H7 (D :: O ++ Y)) (made2 c ys c1 f (xs.take i) ++ made (c1 x0) (f x0) ((ys x0).take (j + 1))) ws, fun H7 ⟨a1, a2, a3, a4⟩ => ⟨(ys x0).length - (j + 1), by omega, rfl, hjl, a1, a2, a3, a4⟩, fun y H7 hy7 => ?_⟩
        obtain ⟨s7, z4⟩ := z3 y H7 hy7
        have hyj : (ys x0)[j]? = some (ys x0)[j] := List.getElem?_eq_getElem hjl
        obtain ⟨sl1, ρ2, hsl1, tg1, ett1, ete1⟩ := (et (ys x0)[j] (List.getElem_mem hjl)).ex
        have hdy : ((ys x0).map en1)[j]? = some (en1 (ys x0)[j]) := by rw [List.getElem?_map, hyj]; rfl
        have tky : (ys x0).take (j + 1) = (ys x0).take j ++ [(ys x0)[j]] := by rw [List.take_add_one, hyj]; rfl
        have I7 := I6.mono s7
        refine tg1 O (D :: Y) H7 (wipe σ4 vs1) y (I7.wipe vs1) (z4 _ hdy) _ fun σ8 I8 l8 k8 => ⟨wipe_set l8 fun k hk => k8 k fun z => hk (hsl1 k z), ?_⟩
        refine ett1 O (D :: Y) H7 σ8 I8 _ fun H8 s8 => ?_
        rw [tky, made_snoc]
        by_cases hc1 : c1 x0 (ys x0)[j] = true
        · rw [if_pos hc1, if_pos hc1]
          refine ete1 hc1 O (D :: Y) H8 σ8 (I8.mono s8) _ fun v H9 s9 hv9 => ?_
          have s69 := s7.trans (s8.trans s9)
          have hus9 : H9 D = some (.lst us) := s69 _ _ hus
          have hsz := small i x0 j hx
          refine ⟨us, hus9, ?_, fun b o hb => ?_, ?_, ?_, us ++ [v], upd_same, ?_⟩
          · rw [gg.len, List.length_append]
            omega
          · rw [upd_ne (ne_of_none hb hD)]
            exact s69 _ _ (s6 _ _ hb)
          · rw [cut_upd_in (show D ∈ O ++ (D :: Y) from List.mem_append_right _ List.mem_cons_self)]
            exact c6.trans (cut_mono s69 _)
          · have I9 := I6.mono s69
            have hcut := cut_upd_in (H := H9) (o := HO.lst (us ++ [v])) (show D ∈ O ++ (D :: Y) from List.mem_append_right _ List.mem_cons_self)
            refine ⟨I9.len, fun k t hk => ?_, I9.sep, fun a ha => ?_⟩
            · obtain ⟨o, g1, g2⟩ := I9.ok k t hk
              refine ⟨o, g1, ?_⟩
              cases t with
              | un => trivial
              | dat e => obtain ⟨u, a1, a2⟩ := g2; exact ⟨u, a1, by rw [hcut]; exact a2⟩
              | own p e =>
                obtain ⟨u, a1, a2, a3⟩ := g2
                refine ⟨u, a1, a2.keep (fun a o ea ho => ?_) (by rw [hcut]; exact Same.refl _) (fun _ _ z => z), a3⟩
                obtain ⟨a', ea', haO⟩ := a2.ref
                have : a = a' := V.ref.inj (ea.symm.trans ea')
                subst this
                rw [upd_ne (fun z => hDX (List.mem_append_left _ (by rw [← z]; exact haO)))]
                exact ho
            · by_cases z : a = D
              · subst z; rw [upd_same]; exact fun z => by cases z
              · rw [upd_ne z]; exact I9.dom a ha
          · rw [cut_upd_in (show D ∈ D :: O ++ Y from List.mem_cons_self), ← List.append_assoc]
            rw [perm] at hv9
            exact (gg.mono (cut_mono s69 _)).snoc hv9
        · rw [if_neg hc1, if_neg hc1]
          have s68 := s7.trans s8
          exact ⟨s6.trans s68, c6.trans (cut_mono s68 _), I6.mono s68, us, s68 _ _ hus, gg.mono (cut_mono s68 _)⟩
      · have e : j = (ys x0).length := by omega
        subst e
        refine .inl ⟨z2 (by omega), s6, us, hus, ?_⟩
        rw [List.take_length] at gg
        exact gg
    · rw [if_neg hc, if_neg hc, List.append_nil]
      exact ⟨s13.trans s4, ws, s4 _ _ hws3, hh4⟩
  · have e : i = xs.length := by omega
    subst e
    refine .inl ⟨w2 (by omega), q D H2 (s1.trans s2) hDn ?_⟩
    rw [List.take_length] at hh
    exact ⟨D, ws, rfl, List.mem_cons_self, fun z => hDX (List.mem_append_right _ z), hws, hh⟩
end
end DL
namespace DL
open PySem PySem.Spec L2
section
variable {K : PySem.W.Frag} {O Y : List Addr} {H H' : Hp} {ρ ρ3 : List Sl} {σ σ4 : L2.St}
/-- back out of a block in which the pot, slot 0, changed -/
theorem Env.back {p : Option Addr} {d0 d1 : Dt} (I : Env K O Y H ρ σ) (h1 : ∀ j q d, ρ[j]? = some (.own q d) → j = 0) (hp : ρ[0]? = some (.own p d0)) (I3 : Env K O Y H' ρ3 σ4) (h0 : ρ3[0]? = some (.own p d1)) (e0 : σ4[0]? = σ[0]?) (s : Same (cut H O) (cut H' O)) : Env K O Y H' (ρ.set 0 (.own p d1)) σ := by
  have hl : 0 < ρ.length := (List.getElem?_eq_some_iff.mp hp).1
  have sc : Same (cut H (O ++ Y)) (cut H' (O ++ Y)) := cut_app s
  refine ⟨by rw [List.length_set]; exact I.len, fun j t ht => ?_, fun i j a b c d v hij hi hj => ?_, I3.dom⟩
  · by_cases hj : 0 = j
    · subst hj
      rw [List.getElem?_set_self hl] at ht
      cases ht
      obtain ⟨v, g1, g2, g3⟩ := I3.own h0
      exact ⟨some v, by rw [← e0]; exact g1, v, rfl, g2, g3⟩
    · rw [List.getElem?_set_ne hj] at ht
      obtain ⟨o, g1, g2⟩ := I.ok j t ht
      refine ⟨o, g1, ?_⟩
      cases t with
      | un => trivial
      | dat e => obtain ⟨v, a1, a2⟩ := g2; exact ⟨v, a1, a2.mono sc⟩
      | own q e => exact absurd (h1 j q e ht).symm hj
  · have zero : ∀ k q e, (ρ.set 0 (.own p d1))[k]? = some (.own q e) → k = 0 := fun k q e hk => by
      by_cases hz : 0 = k
      · exact hz.symm
      · rw [List.getElem?_set_ne hz] at hk
        exact h1 k q e hk
    exact absurd ((zero i a c hi).trans (zero j b d hj).symm) hij
end
section
variable {K : PySem.W.Frag} {ρ : List Sl} {wi : TI} {g : TG} {tt : TT} {te : TE} {kind : Dt → Prop}
/-- a comprehension whose test (or item) draws from the pot in slot 0 -/
theorem eg_lcP {vs : List Nat} {ds : List Dt} {p : Option Addr} {d0 : Dt} {r : List Sl} {Post : Dt → List Sl → Prop} (hr : ∀ (j : Nat) (q : Option Addr) (d : Dt), r[j]? ≠ some (Sl.own q d)) (hk0 : kind d0) (h : EvI K wi (Sl.own p d0 :: r) ds) (hv : 0 ∉ vs)
    (Iv : Nat → List Dt → Prop) (i0 : Iv 0 [])
    (hs : ∀ i d acc d1, ds[i]? = some d → Iv i acc → acc.length ≤ i → kind d1 → ∃ sl ρ2, (∀ j ∈ sl, j ∈ vs) ∧ Tg K g sl d (wipeS (Sl.own p d1 :: r) vs) ρ2 ∧ EvTG K tt ρ2 fun b ρ3 => ∃ d2, kind d2 ∧ ρ3[0]? = some (Sl.own p d2) ∧ if b = true then EvG K te ρ3 fun e ρ4 => (∃ d3, kind d3 ∧ ρ4[0]? = some (Sl.own p d3)) ∧ Iv (i + 1) (acc ++ [e]) else Iv (i + 1) acc)
    (hz : ds.length < sizeLine) (hd : ∀ acc d1, Iv ds.length acc → kind d1 → Post (.lst acc) (Sl.own p d1 :: r)) : EvG K (tLc wi g tt te vs) (Sl.own p d0 :: r) Post := fun O Y H σ I Q q => by
  refine h O Y H σ I _ fun J H1 s1 w => fun D hD => ?_
  have I1 := I.mono s1
  have hDX : D ∉ O ++ Y := new_out I1.dom hD
  have own0 : ∀ (d : Dt) (j : Nat) (q : Option Addr) (e : Dt), (Sl.own p d :: r)[j]? = some (.own q e) → j = 0 := fun d j q e hj => by
    cases j with
    | zero => rfl
    | succ j => exact absurd hj (hr j q e)
  have perm : ∀ (H' : Hp), cut H' (O ++ (D :: Y)) = cut H' (D :: O ++ Y) := fun H' => cut_perm fun b => by
    simp only [List.mem_append, List.mem_cons, List.cons_append]
    constructor
    · rintro (z | z | z) <;> simp [z]
    · rintro (z | z | z) <;> simp [z]
  refine ⟨fun i m H2 => m = ds.length - i ∧ i ≤ ds.length ∧ ∃ acc d1 ws, Iv i acc ∧ acc.length ≤ i ∧ kind d1 ∧ Env K O (D :: Y) H2 (Sl.own p d1 :: r) σ ∧ Same (cut H1 O) (cut H2 O) ∧ H2 D = some (.lst ws) ∧ HasL K (cut H2 (D :: O ++ Y)) acc ws, ⟨ds.length, by omega, by omega, [], d0, [], i0, Nat.le_refl _, hk0, I1.hide (same_new hD) hD upd_same, cut_mono (same_new hD) O, upd_same, rfl⟩, fun i m H2 hW => ?_⟩
  obtain ⟨hm, hi, acc, d1, ws, hI, ha, hk1, I2, c2, hws, hh⟩ := hW
  have cD : Same (cut H1 (O ++ Y)) (cut H2 (O ++ (D :: Y))) := fun b o hb => by
    obtain ⟨b1, b2⟩ := cut_some.mp hb
    have b3 : b ∉ O := fun z => b1 (List.mem_append_left _ z)
    have b4 := (cut_some.mp (c2 b o (cut_some.mpr ⟨b3, b2⟩))).2
    refine cut_some.mpr ⟨fun z => ?_, b4⟩
    rcases List.mem_append.mp z with z | z
    · exact b3 z
    · rcases List.mem_cons.mp z with z | z
      · subst z; rw [hD] at b2; cases b2
      · exact b1 (List.mem_append_right _ z)
  have cw : Same (cut H1 (O ++ Y)) (cut H2 ((O ++ [D]) ++ Y)) := by rw [List.append_assoc]; exact cD
  obtain ⟨w1, w2, w3⟩ := w i H2 (O ++ [D]) cw (by rw [List.append_assoc]; exact I2.dom)
  by_cases hlt : i < ds.length
  · refine .inr ⟨w1 hlt, fun H3 => ∃ acc d1 ws, Iv (i + 1) acc ∧ acc.length ≤ i + 1 ∧ kind d1 ∧ Env K O (D :: Y) H3 (Sl.own p d1 :: r) σ ∧ Same (cut H1 O) (cut H3 O) ∧ H3 D = some (.lst ws) ∧ HasL K (cut H3 (D :: O ++ Y)) acc ws, fun H3 a => ⟨ds.length - (i + 1), by omega, rfl, hlt, a⟩, fun x H3 hy => ?_⟩
    obtain ⟨s3, w4⟩ := w3 x H3 hy
    have hx : ds[i]? = some ds[i] := List.getElem?_eq_getElem hlt
    obtain ⟨sl, ρ2, hsl, tg, ett⟩ := hs i ds[i] acc d1 hx hI ha hk1
    have I3 := I2.mono s3
    have hit : Has K (cut H3 (O ++ (D :: Y))) ds[i] x := by
      have := w4 _ hx
      rw [List.append_assoc] at this
      exact this
    have w0 : (wipe σ vs)[0]? = σ[0]? := by
      have key : ∀ us : List Nat, 0 ∉ us → (wipe σ us)[0]? = σ[0]? := fun us => by
        induction us with
        | nil => intro _; rfl
        | cons u us ih =>
          intro hu
          show ((wipe σ us).set u none)[0]? = _
          rw [List.getElem?_set_ne (fun z => hu (by simp [z])), ih (fun z => hu (List.mem_cons_of_mem _ z))]
      exact key vs hv
    refine tg O (D :: Y) H3 (wipe σ vs) x (I3.wipe vs) hit _ fun σ4 I4 l4 k4 => ⟨wipe_set l4 fun k hk => k4 k fun z => hk (hsl k z), ?_⟩
    have e0 : σ4[0]? = σ[0]? := (k4 0 fun z => hv (hsl 0 z)).trans w0
    refine ett O (D :: Y) H3 σ4 I4 _ fun b ρ3 H4 hb I5 c5 => ?_
    obtain ⟨d2, hk2, h20, hbr⟩ := hb
    have B4 := I3.back (own0 d1) rfl I5 h20 e0 c5
    have kD : ∀ {Ha Hb : Hp} {us : List V}, Same (cut Ha O) (cut Hb O) → Ha D = some (.lst us) → Hb D = some (.lst us) := fun c hd => (cut_some.mp (c _ _ (cut_some.mpr ⟨fun z => hDX (List.mem_append_left _ z), hd⟩))).2
    have kL : ∀ {Ha Hb : Hp} {us : List V} {es : List Dt}, Same (cut Ha O) (cut Hb O) → HasL K (cut Ha (D :: O ++ Y)) es us → HasL K (cut Hb (D :: O ++ Y)) es us := fun c hl => by
      refine hl.mono fun b o hb => ?_
      obtain ⟨b1, b2⟩ := cut_some.mp hb
      have b3 : b ∉ O := fun z => b1 (List.mem_cons_of_mem _ (List.mem_append_left _ z))
      exact cut_some.mpr ⟨b1, (cut_some.mp (c b o (cut_some.mpr ⟨b3, b2⟩))).2⟩
    have c3 : Same (cut H2 O) (cut H4 O) := (cut_mono s3 O).trans c5
    cases b with
    | false =>
      show ∃ acc d1 ws, _
      exact ⟨acc, d2, ws, hbr, by omega, hk2, B4, c2.trans c3, kD c3 hws, kL c3 hh⟩
    | true =>
      show te σ4 H4 _
      refine (show EvG K te ρ3 _ from hbr) O (D :: Y) H4 σ4 I5 _ fun e ρ4 v H5 he I6 c6 hv5 => ?_
      obtain ⟨⟨d3, hk3, h30⟩, hI2⟩ := he
      have B5 : Env K O (D :: Y) H5 (Sl.own p d3 :: r) σ := B4.back (own0 d2) rfl I6 h30 e0 c6
      have c7 := c3.trans c6
      refine ⟨ws, kD c7 hws, ?_, acc ++ [e], d3, ws ++ [v], hI2, ?_, hk3, ?_, ?_, upd_same, ?_⟩
      · rw [hh.len]
        omega
      · rw [List.length_append, List.length_singleton]
        omega
      · have hcut := cut_upd_in (H := H5) (o := HO.lst (ws ++ [v])) (show D ∈ O ++ (D :: Y) from List.mem_append_right _ List.mem_cons_self)
        refine ⟨B5.len, fun k t hk => ?_, B5.sep, fun a ha => ?_⟩
        · obtain ⟨o, g1, g2⟩ := B5.ok k t hk
          refine ⟨o, g1, ?_⟩
          cases t with
          | un => trivial
          | dat e => obtain ⟨u, a1, a2⟩ := g2; exact ⟨u, a1, by rw [hcut]; exact a2⟩
          | own q e =>
            obtain ⟨u, a1, a2, a3⟩ := g2
            refine ⟨u, a1, a2.keep (fun a o ea ho => ?_) (by rw [hcut]; exact Same.refl _) (fun _ _ z => z), a3⟩
            obtain ⟨a', ea', haO⟩ := a2.ref
            have : a = a' := V.ref.inj (ea.symm.trans ea')
            subst this
            rw [upd_ne (fun z => hDX (List.mem_append_left _ (by rw [← z]; exact haO)))]
            exact ho
        · by_cases z : a = D
          · subst z; rw [upd_same]; exact fun z => by cases z
          · rw [upd_ne z]; exact B5.dom a ha
      · intro b o hb
        have hbD : b ≠ D := fun z => by
          subst z
          rw [(cut_some.mp hb).2] at hD
          cases hD
        obtain ⟨b1, b2⟩ := cut_some.mp ((c2.trans c7) b o hb)
        exact cut_some.mpr ⟨b1, by rw [upd_ne hbD]; exact b2⟩
      · rw [cut_upd_in (show D ∈ D :: O ++ Y from List.mem_cons_self)]
        rw [perm] at hv5
        exact (kL c7 hh).snoc hv5
  · have e : i = ds.length := by omega
    subst e
    have more : Same (cut H2 (O ++ (D :: Y))) (cut H2 (O ++ Y)) := cut_more fun b hb => by
      rcases List.mem_append.mp hb with z | z
      · exact List.mem_append_left _ z
      · exact List.mem_append_right _ (List.mem_cons_of_mem _ z)
    refine .inl ⟨w2 (Nat.le_refl _), q (.lst acc) _ _ H2 (hd acc d1 hI hk1) ⟨I2.len, fun k t hk => ?_, I2.sep, fun a ha => I2.dom a ?_⟩ ((cut_mono s1 O).trans c2) ⟨D, ws, rfl, .inl (cut_some.mpr ⟨hDX, hws⟩), ?_⟩⟩
    · obtain ⟨o, g1, g2⟩ := I2.ok k t hk
      refine ⟨o, g1, ?_⟩
      cases t with
      | un => trivial
      | dat e => obtain ⟨u, a1, a2⟩ := g2; exact ⟨u, a1, a2.mono more⟩
      | own q e =>
        obtain ⟨u, a1, a2, a3⟩ := g2
        obtain ⟨a, rfl, haO⟩ := a2.ref
        obtain ⟨_, hay, _⟩ := own_some a2
        exact ⟨_, a1, own_in a2 haO (fun z => hay (List.mem_cons_of_mem _ z)) fun b hb => by
          rcases List.mem_append.mp hb with z | z
          · exact List.mem_append_left _ z
          · exact List.mem_append_right _ (List.mem_cons_of_mem _ z), a3⟩
    · rcases List.mem_append.mp ha with z | z
      · exact List.mem_append_left _ z
      · exact List.mem_append_right _ (List.mem_cons_of_mem _ z)
    · rw [← perm] at hh
      exact hh.mono more
end
section
variable {K : PySem.W.Frag} {ρ : List Sl} {te : TE}
/-- range(n) -/
theorem ei_upto {n : Nat} (h : Ev K te ρ (natD n)) (hn : n ≤ 100000) : EvI K (iRng1 (tCons te tNil)) ρ ((List.range n).map natD) := (ei_rng1 (n := (n : Int)) (ea_cons h ea_nil) (by omega)).is (by rw [show ((n : Int)).toNat = n by omega]; exact nums_range0 _)
end
theorem inF_ns (i : Nat) : ∀ l : List Nat, inF (natD i) (nsD l) = decide (i ∈ l)
  | [] => rfl
  | a :: l => by
    have ih := inF_ns i l
    show (eqF (natD a) (natD i) || inF (natD i) (nsD l)) = _
    rw [ih]
    show (((a : Int) == (i : Int)) || decide (i ∈ l)) = _
    have e1 : ((a : Int) == (i : Int)) = decide (i = a) := by
      by_cases h : i = a
      · simp [h]
      · have h2 : ¬ (a : Int) = (i : Int) := by omega
        simp [h, h2]
    rw [e1]
    by_cases h1 : i = a <;> by_cases h2 : i ∈ l <;> simp [h1, h2]
theorem flat_ns : ∀ l : List Nat, (nsD l).all flatD = true
  | [] => rfl
  | a :: l => by
    show (flatD (natD a) && (nsD l).all flatD) = true
    rw [flat_ns l]
    rfl
/-! ### methods without arguments -/
theorem pe_methD0 {X : Cx} {C : Addr} {m : Str} {ps : List Str} {k j : Nat} {sp : Sp} {apos pos : Pos} {o : Expr} {ta : TE} {pl : Sem Bool} (he : PE X o ta) (c : Cls X.K C) (D : MDef X.prog X.w X.K X.mg X.base C m ps k sp) (hr : Room j X.A) (hk : k ≤ j)
    (ht : eval (.Call (.Attribute o m apos) [] [] pos) X.env = (do
      let ov ← eval o X.env
      standAt apos.atName
      let (f, first) ← holding [ov] (getMethod ov m pl)
      callWith pos f first (backTo pos (starEach [] X.env)) (backToKw pos (keywordEach [] X.env))) := by rfl) :
    PE X (.Call (.Attribute o m apos) [] [] pos) (tMeth C m sp [] E0 ta tNil) := by
  refine ⟨fun pn st σ H Q inv hyp => ?_⟩
  obtain ⟨f, fd, h1, h3, h4⟩ := D.ex
  exact (pe_meth0 he c h1 h4 (hr.mono hk) h3 .nil pass0 ht).run pn st σ H Q inv hyp
end DL
namespace L2
open PySem PySem.Spec PyProof.Rows
/-! ### several clauses, with names or without -/
abbrev Sui := Addr → Value → Option Addr → TS
/-- behind a suite with a name the name's slot is empty -/
def goneD (i : Nat) (D : Ends) : Ends := { nx := fun z K => D.nx (z.set i none) K, rt := D.rt, bk := fun z K => D.bk (z.set i none) K, ct := fun z K => D.ct (z.set i none) K }
def wMix (K : PySem.W.Frag) (Wo : WX) (D : Ends) : List (Value × Option Nat × Sui) → WX
  | [] => Wo
  | (c, io, ts) :: r => fun k d σ H => ∃ b, PySem.W.exmOne K k c = some b ∧
      (b = true → ∀ a, H a = none → match io with
        | none => ts a k d D σ H
        | some i => ts a k d (goneD i D) (σ.set i (some (.ref a))) H) ∧ (b = false → wMix K Wo D r k d σ H)
def SuiOk (X : Cx) (su : List Stmt) (ts : Sui) : Prop := ∀ (a : Addr) (oe : Obj) (k : Value) (d : Option Addr) (pn : List (Addr × Obj)), Zc k d oe → (∃ vs, oe.data = .fields vs) → PSs (X.suite a ((a, oe) :: pn)) su (ts a k d)
inductive Mix (X : Cx) : List ExceptHandler → List (Value × Option Nat × Sui) → Prop
  | nil : Mix X [] []
  | bare {x : Str} {c : Value} {ts : Sui} {b₀ : Stmt} {su : List Stmt} {q1 q2 : Pos} {hds : List ExceptHandler} {l : List (Value × Option Nat × Sui)} (hc : Names X x c) (hsu : SuiOk X (b₀ :: su) ts) (r : Mix X hds l) :
      Mix X (.ExceptHandler (some (.Name x q1)) none (b₀ :: su) q2 :: hds) ((c, none, ts) :: l)
  | named {x n : Str} {i : Nat} {c : Value} {ts : Sui} {b₀ : Stmt} {su : List Stmt} {q1 q2 : Pos} {hds : List ExceptHandler} {l : List (Value × Option Nat × Sui)} (hc : Names X x c) (hi : X.N[i]? = some n) (hl : X.env.kindOf n = some .local)
      (hsu : SuiOk X (b₀ :: su) ts) (r : Mix X hds l) : Mix X (.ExceptHandler (some (.Name x q1)) (some n) (b₀ :: su) q2 :: hds) ((c, some i, ts) :: l)
section
variable {X : Cx} {body : List Stmt} {h₀ : ExceptHandler} {hds : List ExceptHandler} {l : List (Value × Option Nat × Sui)} {pos : Pos} {tb : WX → TS} {Wo : WX}
/-- the exception stands at a, the clauses are asked one after the other -/
theorem mix_go {pins : List (Addr × Obj)} {σ : St} {H : Hp} {D : Ends} {a : Addr} {B : Heap} {sI s' : Shared} {h3 : Heap} {cls : Value} {d : Option Addr} (ok : X.Ok) (hs : X.stack = X.env :: X.outer) (hf : X.env.frame = some X.env.locals) (hN : X.N.Nodup) (tk : Takes X Wo)
    (J : Inv X pins σ H sI) (nb : ∀ b o, sI.heap.get? b = some o → b ∉ frs X.stack → B.get? b = some o) (up : sI.heap.UpToSlots h3) (os : s'.os = sI.os) (ag : AllBare s'.gens) (na : H a = none) (nL : a ≠ X.env.locals) (nF : a ∉ X.fs)
    (flz : HandSPX.FlyingZ B (X.env :: X.outer) a (Zc cls d) h3) :
    ∀ {hds : List ExceptHandler} {l : List (Value × Option Nat × Sui)}, Mix X hds l → wMix X.K Wo D l cls d σ H →
      wpAny (model X.prog X.w) X.A (handleBy (.ref a) X.env hds) (SP X pins D) X.xe { s' with heap := h3 } := by
  have J3 : Inv X pins σ H { s' with heap := h3 } := J.landed nb flz.1 up os ag
  obtain ⟨oe3, vs3, he3, hz3, hd3⟩ := flz.there
  have S3 := J3.suite he3 hd3 na nL nF
  have typ : PySem.W.Looks (model X.prog X.w) h3 (typeOf (.ref a)) cls := fun A Q E s k q => wpAny_typeOf_ref (k _ _ he3) (by rw [hz3.1]; exact q)
  have ask : ∀ {x : Str} {c : Value} {np : Pos} {Q : Value → Shared → Prop} {E : Value → Shared → Prop}, Names X x c → Q c { s' with heap := h3 } → wpAny (model X.prog X.w) (X.A.mark (some (.ref a))) (eval (.Name x np) X.env) Q E { s' with heap := h3 } := fun {x c np Q E} hc q => by
    rcases hc with ⟨g1, g2, g3 | ⟨g3, g4, g5⟩⟩
    · exact ld_glob (X := X.suite a ((a, oe3) :: (X.pn ++ pins))) S3 g1 g3 q g2
    · exact ld_blt (X := X.suite a ((a, oe3) :: (X.pn ++ pins))) S3 g1 g3 g4 q g5 g2
  intro hds l m
  induction m with
  | nil =>
    intro w
    refine wpAny_handleBy_nil ?_
    obtain ⟨_, _, _, oe, vs, T, _, _, he, _, hd, h1, _⟩ := id flz
    have fin : wpAny (model X.prog X.w) X.A (setFlight (.ref a) X.env.frame) (fun _ z => wpAny (model X.prog X.w) X.A (throw (.ref a) : Sem Flow) (SP X pins D) X.xe z) X.xe { s' with heap := h3 } := by
      rw [hf]
      exact HandSPX.setFlight_upZ flz fun h4 hh4 up4 => wpAny_throw (tk _ _ ⟨a, B, sI, pins, σ, H, cls, d, rfl, J, nb, up.trans up4, .inr (.inr (by rw [hs]; exact hh4)), na, os, ag, w⟩)
    unfold PySem.passOn
    refine wpAny_bind (wpAny_field he hd h1 ?_)
    have ne : ¬ ((Value.ref T == Value.none) = true) := by simp
    rw [if_neg ne]
    first
      | exact wpAny_bind (wpAny_pure (wpAny_bind fin))
      | exact wpAny_bind fin
  | @bare x c ts b₀ su q1 q2 hds2 l2 hc hsu r ih =>
    rintro ⟨b, e1, yes, no⟩
    refine wpAny_handleBy_cons (codeAny_handlers_test ?_) (by intro q; cases q)
    refine ask hc ((PySem.W.exm_one (M := model X.prog X.w) J3.kIn typ e1).here ?_)
    cases b with
    | false => exact ih (no rfl)
    | true =>
      refine codeAny_handlers_suite ?_
      refine HandSPX.lands_againZ flz fun h4 fl4 up4 => ?_
      have J4 : Inv X pins σ H { s' with heap := h4 } := J.landed nb fl4.1 (up.trans up4) os ag
      obtain ⟨oe4, vs4, he4, hz4, hd4⟩ := fl4.there
      refine wpAny_mono ((hsu a oe4 cls d (X.pn ++ pins) hz4 ⟨_, hd4⟩).run [] _ _ H _ (J4.suite he4 hd4 na nL nF) (yes rfl a na)) (fun f s6 hsp => ?_) (fun _ _ z => False.elim z)
      cases f with
      | ret u => obtain ⟨v6, σ6, H6, S6, r6, q6⟩ := hsp; exact ⟨_, _, _, S6.unsuite ok, r6, q6⟩
      | next => obtain ⟨σ6, H6, S6, q6⟩ := hsp; exact ⟨_, _, S6.unsuite ok, q6⟩
      | brk => obtain ⟨σ6, H6, S6, q6⟩ := hsp; exact ⟨_, _, S6.unsuite ok, q6⟩
      | cont => obtain ⟨σ6, H6, S6, q6⟩ := hsp; exact ⟨_, _, S6.unsuite ok, q6⟩
  | @named x n i c ts b₀ su q1 q2 hds2 l2 hc hi hl hsu r ih =>
    rintro ⟨b, e1, yes, no⟩
    refine wpAny_handleBy_cons (codeAny_handlers_test ?_) (by intro q; cases q)
    refine ask hc ((PySem.W.exm_one (M := model X.prog X.w) J3.kIn typ e1).here ?_)
    cases b with
    | false => exact ih (no rfl)
    | true =>
      refine codeAny_handlers_suite_as ?_
      refine HandSPX.lands_againZ flz fun h4 fl4 up4 => ?_
      have J4 : Inv X pins σ H { s' with heap := h4 } := J.landed nb fl4.1 (up.trans up4) os ag
      obtain ⟨oe4, vs4, he4, hz4, hd4⟩ := fl4.there
      refine store_ok (X := X.suite a ((a, oe4) :: (X.pn ++ pins))) (v := .ref a) (J4.suite he4 hd4 na nL nF) hN hi (.inl hl) rfl (fun s5 S5 => ?_) (.inr hl)
      refine wpAny_mono ((hsu a oe4 cls d (X.pn ++ pins) hz4 ⟨_, hd4⟩).run [] s5 _ H _ S5 (yes rfl a na)) (fun f s6 hsp => ?_) (fun _ _ z => False.elim z)
      cases f with
      | ret u => obtain ⟨v6, σ6, H6, S6, r6, q6⟩ := hsp; exact gone_ok (S6.unsuite ok) hN hi hl fun s7 J7 => ⟨_, _, _, J7, r6, q6⟩
      | next => obtain ⟨σ6, H6, S6, q6⟩ := hsp; exact gone_ok (S6.unsuite ok) hN hi hl fun s7 J7 => ⟨_, _, J7, q6⟩
      | brk => obtain ⟨σ6, H6, S6, q6⟩ := hsp; exact gone_ok (S6.unsuite ok) hN hi hl fun s7 J7 => ⟨_, _, J7, q6⟩
      | cont => obtain ⟨σ6, H6, S6, q6⟩ := hsp; exact gone_ok (S6.unsuite ok) hN hi hl fun s7 J7 => ⟨_, _, J7, q6⟩
theorem ps_try_mix (hs : X.stack = X.env :: X.outer) (hf : X.env.frame = some X.env.locals) (hN : X.N.Nodup) (tk : Takes X Wo)
    (hb : ∀ (W : WX) (pn : List (Addr × Obj)) (xe : Value → Shared → Prop), Takes (X.tr pn xe) W → PassesOwn (model X.prog X.w) X.A X.env xe → PSs (X.tr pn xe) body (tb W))
    (hh : Mix X (h₀ :: hds) l) : PS X (.Try body (h₀ :: hds) [] [] pos) (fun D σ H => tb (wMix X.K Wo D l) D σ H) := by
  refine ⟨fun pins s σ H D I h => ?_⟩
  have ok := I.ok
  have hfr : X.A.frames = some (X.env :: X.outer) := by rw [ok.frames, hs]
  refine wpAny_Try_except ?_
  refine wpAny_mono ((hb (wMix X.K Wo D l) (X.pn ++ pins) (fun e s₁ => wpAny (model X.prog X.w) X.A (noteFrame e X.env) (fun _ s₂ => wpAny (model X.prog X.w) X.A (setFlight e none) (fun _ s₃ =>
    wpAny (model X.prog X.w) X.A (handleBy e X.env (h₀ :: hds)) (SP X pins D) X.xe s₃) X.xe s₂) X.xe s₁) (fun u s' xx => ?_) PassesOwn.looking).run [] s σ H D (I.toTry _) h) (fun f s1 hsp => ?_) (fun e s1 he => he)
  · rcases xx with ⟨a, B, sI, pins2, σ2, H2, cls, d, rfl, J2, nb, up, sky, na, os, ag, w⟩
    have J : Inv X pins σ2 H2 sI := J2.ofTry ok
    rw [hs] at sky
    show wpAny (model X.prog X.w) X.A (noteFrame (.ref a) X.env) _ _ _
    refine Sky.land Zc.steady hfr hf sky fun h3 fl3 up3 => ?_
    obtain ⟨oe3, vs3, he3, hz3, hd3⟩ := fl3.there
    have nfr : a ∉ frs (X.env :: X.outer) := fun hm => by
      rcases fl3.2.2.1.mem hm with ⟨_, o2, e2, hnf⟩
      rw [he3] at e2
      cases e2
      exact hnf _ hd3
    refine mix_go ok hs hf hN tk J nb (up.trans up3) os ag na (fun z => nfr (List.mem_filterMap.mpr ⟨X.env, List.mem_cons_self, by rw [hf, z]⟩)) (fun hm => ?_) fl3 hh w
    obtain ⟨e, e1, q⟩ := List.mem_filterMap.mp hm
    exact nfr (List.mem_filterMap.mpr ⟨e, List.mem_cons_of_mem _ e1, q⟩)
  · cases f with
    | ret u => rcases hsp with ⟨v, σ2, H2, J2, r, q⟩; exact ⟨v, σ2, H2, J2.ofTry ok, r, q⟩
    | next => rcases hsp with ⟨σ2, H2, J2, q⟩; exact wpAny_execs_nil ⟨σ2, H2, J2.ofTry ok, q⟩
    | brk => rcases hsp with ⟨σ2, H2, J2, q⟩; exact ⟨σ2, H2, J2.ofTry ok, q⟩
    | cont => rcases hsp with ⟨σ2, H2, J2, q⟩; exact ⟨σ2, H2, J2.ofTry ok, q⟩
end
theorem takes_no {X : Cx} : Takes X (fun _ _ _ _ => False) := fun _ _ ⟨_, _, _, _, _, _, _, _, _, _, _, _, _, _, _, _, w⟩ => w.elim
def tTry (K : PySem.W.Frag) (tb : WX → TS) (l : List (Value × Option Nat × Sui)) : TS := fun D σ H => tb (wMix K (fun _ _ _ _ => False) D l) D σ H
def tTryX (K : PySem.W.Frag) (Wo : WX) (tb : WX → TS) (l : List (Value × Option Nat × Sui)) : TS := fun D σ H => tb (wMix K Wo D l) D σ H
/-- what the top says of an exception class without own __init__ -/
structure ExcF (K : PySem.W.Frag) (mg : Str → Option Value) (x : Str) : Prop where
  gC : mg x = some (.ref (He.ga K x))
  q : PySem.W.excIn K (He.ga K x) He.veBase "ValueError.__new__" = true
  kC : PySem.W.keepIn K (.ref (He.ga K x)) = true
  s : PySem.W.subIn K (.ref (He.ga K x)) (.type "BaseException") = some true
  t : PySem.W.typeIn K (.ref (He.ga K x)) = some (.type "type")
theorem ExcF.of {K : PySem.W.Frag} {mg : Str → Option Value} {x : Str} (g : mg x = some (.ref (He.ga K x))) (c : (He.Fa.exc x).ok K = true) : ExcF K mg x := by
  obtain ⟨h1, h2, h3, h4⟩ := He.exc_ok c
  exact ⟨g, h1, h2, h3, h4⟩
def tRaise0 (W : WX) (C : Addr) : TS := fun _ σ H => W (.ref C) none σ H
theorem ps_raise0 {X : Cx} {W : WX} {x m : Str} {j : Nat} {p p2 pos pos2 : Pos} (T : ExcF X.K X.mg x) (hc : X.calm = true) (tk : Takes X W) (hg : Gl X x) (hdb : (x == ("__debug__" : Str)) = false := by decide) :
    PS X (.Raise (some (.Call (.Name x p) [.Constant (.str m) j p2] [] pos)) none pos2) (tRaise0 W (He.ga X.K x)) := ps_raise hc tk (pmk_own PySem.F.excBase_ValueError T.q T.gC T.kC (raises_own T.s T.t) hg hdb)
end L2
namespace DL
open PySem PySem.Spec L2
/-- an exception as data: its class, its fields -/
structure Xn where
  C : Addr
  fs : List (Str × Dt) := []
def XOk (K : PySem.W.Frag) (Y : List Addr) (H : Hp) (x : Xn) (cls : Value) (d : Option Addr) : Prop := cls = .ref x.C ∧ match x.fs with
  | [] => d = none
  | _ :: _ => ∃ p vs, d = some p ∧ p ∉ Y ∧ H p = some (.xd ((x.fs.map (·.1)).zip vs)) ∧ HasL K (cut H Y) (x.fs.map (·.2)) vs
theorem XOk.fewer {K : PySem.W.Frag} {Y Z : List Addr} {H : Hp} {x : Xn} {cls : Value} {d : Option Addr} (h : XOk K Y H x cls d) (hz : ∀ a ∈ Z, a ∈ Y) : XOk K Z H x cls d := by
  obtain ⟨C, fs⟩ := x
  refine ⟨h.1, ?_⟩
  cases fs with
  | nil => exact h.2
  | cons f fs =>
    obtain ⟨p, vs, h1, h2, h3, h4⟩ := h.2
    exact ⟨p, vs, h1, fun z => h2 (hz p z), h3, h4.mono (cut_more hz)⟩
section
variable (K : PySem.W.Frag)
def EvX (te : WX → TE) (ρ : List Sl) (o : Dt ⊕ Xn) : Prop := ∀ O Y H σ, Env K O Y H ρ σ → ∀ (W : WX) (Q : VK), (∀ d v H', o = .inl d → Same H H' → Has K (cut H' (O ++ Y)) d v → Q v H') →
  (∀ x cls d H', o = .inr x → Same H H' → XOk K (O ++ Y) H' x cls d → W cls d σ H') → te W σ H Q
def RunsX (t : WX → TS) (ρ : List Sl) (P : Po) (R : Xn → List Sl → Prop) : Prop := ∀ Y G σ H D (W : WX), Sta K Y G ρ σ H → Ends K Y G P D →
  (∀ x ρ' σ' H' cls d, R x ρ' → Sta K Y G ρ' σ' H' → XOk K Y H' x cls d → W cls d σ' H') → t W D σ H
def spX {A : Type} (args : A → List Dt) (dom : A → Prop) (res : A → Dt ⊕ Xn) : Sp := fun vs H Q E => ∃ x Y, (∀ a ∈ Y, H a ≠ none) ∧ HasL K (cut H Y) (args x) vs ∧ dom x ∧
  (∀ d v H', res x = .inl d → Same H H' → Has K (cut H' Y) d v → Q v H') ∧ (∀ e cls d H', res x = .inr e → Same H H' → XOk K Y H' e cls d → E cls d H')
end
section
variable {K : PySem.W.Frag} {ρ ρ' : List Sl} {P : Po} {R : Xn → List Sl → Prop} {te : WX → TE} {t u : WX → TS} {c : TT} {o : Dt ⊕ Xn} {i : Nat} {A : Type} {args : A → List Dt} {dom : A → Prop} {res : A → Dt ⊕ Xn} {ta : TA}
theorem ex_call (x : A) (h : EvA K ta ρ (args x)) (hd : dom x) : EvX K (fun W => tCallS (spX K args dom res) (WE W) ta) ρ (res x) := fun O Y H σ I W Q q r => h O Y H σ I _ fun vs H1 s1 hv =>
  ⟨x, O ++ Y, dom_mono I.dom s1, hv, hd, fun d v H' e s w => q d v H' e (s1.trans s) w, fun e cls d H' h s w => r e cls d H' h (s1.trans s) w⟩
theorem EvX.is {o2 : Dt ⊕ Xn} (h : EvX K te ρ o) (e : o = o2) : EvX K te ρ o2 := by
  rw [← e]; exact h
theorem x_of {t : TS} (h : Runs K t ρ P) : RunsX K (fun _ => t) ρ P R := fun Y G σ H D W S E _ => h Y G σ H D S E
theorem x_seq (h : RunsX K t ρ { P with nx := fun ρ' => RunsX K u ρ' P R } R) : RunsX K (fun W => tSeq (t W) (u W)) ρ P R := fun Y G σ H D W S E r =>
  h Y G σ H { D with nx := u W D } W S ⟨fun ρ' σ' H' hr hs => hr Y G σ' H' D W hs E r, E.rt, E.bk, E.ct⟩ r
theorem x_seqN {t : TS} (h : Runs K t ρ { P with nx := fun ρ' => RunsX K u ρ' P R }) : RunsX K (fun W => tSeq t (u W)) ρ P R := x_seq (x_of h)
theorem x_drop (h : EvX K te ρ o) (k : ∀ d, o = .inl d → P.nx ρ) (r : ∀ x, o = .inr x → R x ρ) : RunsX K (fun W => tDrop (te W)) ρ P R := fun Y G σ H D W ⟨O, I, g⟩ E q => h O Y H σ I W _
  (fun d v H' e s hv => E.nx _ _ _ (k d e) ⟨O, I.mono s, g.trans (cut_mono s _)⟩)
  fun x cls d H' e s hx => q x ρ σ H' cls d (r x e) ⟨O, I.mono s, g.trans (cut_mono s _)⟩ (hx.fewer fun a ha => List.mem_append_right _ ha)
theorem x_asg (h : EvX K te ρ o) (k : ∀ d, o = .inl d → P.nx (ρ.set i (.dat d))) (r : ∀ x, o = .inr x → R x ρ) : RunsX K (fun W => tAsg (te W) (gName i)) ρ P R := fun Y G σ H D W ⟨O, I, g⟩ E q => h O Y H σ I W _
  (fun d v H' e s hv => E.nx _ _ _ (k d e) ⟨O, (I.mono s).put (s := .dat d) ⟨v, rfl, hv⟩ (fun _ _ z => by cases z), g.trans (cut_mono s _)⟩)
  fun x cls d H' e s hx => q x ρ σ H' cls d (r x e) ⟨O, I.mono s, g.trans (cut_mono s _)⟩ (hx.fewer fun a ha => List.mem_append_right _ ha)
theorem x_ret (h : EvX K te ρ o) (k : ∀ d, o = .inl d → P.rt d ρ) (r : ∀ x, o = .inr x → R x ρ) : RunsX K (fun W => tRet (te W)) ρ P R := fun Y G σ H D W ⟨O, I, g⟩ E q => h O Y H σ I W _
  (fun d v H' e s hv => E.rt d ρ σ v H' (k d e) ⟨O, I.mono s, g.trans (cut_mono s _), hv⟩)
  fun x cls d H' e s hx => q x ρ σ H' cls d (r x e) ⟨O, I.mono s, g.trans (cut_mono s _)⟩ (hx.fewer fun a ha => List.mem_append_right _ ha)
theorem x_if {b : Bool} (h : EvT K c ρ b) (h1 : b = true → RunsX K t ρ P R) (h2 : b = false → RunsX K u ρ P R) : RunsX K (fun W => tIfS c (t W) (u W)) ρ P R := fun Y G σ H D W ⟨O, I, g⟩ E q =>
  h O Y H σ I _ fun H' s => by
    cases b with
    | true => exact h1 rfl Y G σ H' D W ⟨O, I.mono s, g.trans (cut_mono s _)⟩ E q
    | false => exact h2 rfl Y G σ H' D W ⟨O, I.mono s, g.trans (cut_mono s _)⟩ E q
theorem x_raise0 {C : Addr} (h : R ⟨C, []⟩ ρ) : RunsX K (fun W => tRaise0 W C) ρ P R := fun Y G σ H D W S E q => q ⟨C, []⟩ ρ σ H _ _ h S ⟨rfl, rfl⟩
/-! ### try -/
theorem Env.forget {O Y : List Addr} {H : Hp} {σ : L2.St} {i : Nat} {o : Option V} (I : Env K O Y H ρ σ) : Env K O Y H (ρ.set i .un) (σ.set i o) := by
  have low : ∀ {m : Nat} {s : Sl}, (ρ.set i .un)[m]? = some s → (i = m ∧ s = .un) ∨ (i ≠ m ∧ ρ[m]? = some s) := fun {m s} hm => by
    by_cases him : i = m
    · subst him
      have hl : i < ρ.length := by
        have := (List.getElem?_eq_some_iff.mp hm).1
        rw [List.length_set] at this
        exact this
      rw [List.getElem?_set_self hl] at hm
      exact .inl ⟨rfl, (Option.some.inj hm).symm⟩
    · rw [List.getElem?_set_ne him] at hm
      exact .inr ⟨him, hm⟩
  refine ⟨by rw [List.length_set, List.length_set]; exact I.len, fun j t ht => ?_, fun j k p q d e w hjk hj hk h1 h2 => ?_, I.dom⟩
  · rcases low ht with ⟨rfl, rfl⟩ | ⟨hn, hj⟩
    · have hl := (List.getElem?_eq_some_iff.mp ht).1
      rw [List.length_set] at hl
      exact ⟨o, List.getElem?_set_self (by rw [I.len]; exact hl), trivial⟩
    · rw [List.getElem?_set_ne hn]
      exact I.ok j t hj
  · rcases low hj with ⟨_, z⟩ | ⟨n1, a1⟩
    · cases z
    rcases low hk with ⟨_, z⟩ | ⟨n2, a2⟩
    · cases z
    rw [List.getElem?_set_ne n1] at h1
    rw [List.getElem?_set_ne n2] at h2
    exact I.sep j k p q d e w hjk a1 a2 h1 h2
def Po.gone (i : Nat) (P : Po) : Po := { nx := fun z => P.nx (z.set i .un), rt := P.rt, bk := fun z => P.bk (z.set i .un), ct := fun z => P.ct (z.set i .un) }
def Handled (K : PySem.W.Frag) (P : Po) (x : Xn) (ρ : List Sl) : List (Value × Option Nat × Sui) → Prop
  | [] => False
  | (c, io, ts) :: r => ∃ b, PySem.W.exmOne K (.ref x.C) c = some b ∧ (b = true → ∀ a k d, match io with
      | none => Runs K (ts a k d) ρ P
      | some i => Runs K (ts a k d) (ρ.set i .un) (P.gone i)) ∧ (b = false → Handled K P x ρ r)
theorem Ends.gone {Y : List Addr} {G : Hp} {D : L2.Ends} (E : Ends K Y G P D) : Ends K Y G (P.gone i) (goneD i D) := by
  have put : ∀ {ρ : List Sl} {σ : L2.St} {H : Hp}, Sta K Y G ρ σ H → Sta K Y G (ρ.set i .un) (σ.set i none) H := fun ⟨O, I, g⟩ => ⟨O, I.forget, g⟩
  exact ⟨fun ρ σ H h s => E.nx _ _ _ h (put s), E.rt, fun ρ σ H h s => E.bk _ _ _ h (put s), fun ρ σ H h s => E.ct _ _ _ h (put s)⟩
theorem r_try {l : List (Value × Option Nat × Sui)} (h : RunsX K t ρ P fun x ρ' => Handled K P x ρ' l) : Runs K (tTry K t l) ρ P := fun Y G σ H D S E => by
  refine h Y G σ H D _ S E fun x ρ' σ' H' cls d hx S' xo => ?_
  revert hx
  clear h
  induction l with
  | nil => exact fun z => z.elim
  | cons q r ih =>
    obtain ⟨c, io, ts⟩ := q
    rintro ⟨b, e1, yes, no⟩
    obtain ⟨ec, _⟩ := xo
    subst ec
    refine ⟨b, e1, fun eb a ha => ?_, fun eb => ih (no eb)⟩
    have z := yes eb a (.ref x.C) d
    cases io with
    | none => exact z Y G σ' H' D S' E
    | some i =>
      obtain ⟨O, I, g⟩ := S'
      exact z Y G _ H' _ ⟨O, I.forget, g⟩ E.gone
end
section
variable {P : Program} {w : World} {K : PySem.W.Frag} {mg : Str → Option Value} {base : Heap} {A : Type} {args : A → List Dt} {dom : A → Prop} {res : A → Dt ⊕ Xn}
abbrev wE (E : XK) : WX := fun cls d _ H => E cls d H
theorem fn_x {x qual : Str} {st : Stmt} {f : Addr} {fd : FuncData} {N ps : List Str} {k : Nat} (F : FnOf K x qual st f fd) (S : FnScope N ps (defScope st)) (hl : ∀ x, (args x).length = ps.length) (t : WX → TS)
    (hb : ∀ (cdv : Value) (A : Around) (outer : List PySem.Env) (s : Shared) (H : Hp) (E : XK), Room k (A.deeper (PyProof.Rows.envOfC qual (defScope st) s.heap.objs.size f cdv)) → PSs (cxOf (L2.CX P w) P w K mg base N qual (defScope st) f cdv A outer s H E) (defBody st) (t (wE E)))
    (hn : ps.length ≤ N.length) (run : ∀ x, dom x → RunsX K t ((args x).map .dat ++ List.replicate (N.length - ps.length) .un) { nx := fun _ => res x = .inl .non, rt := fun d _ => res x = .inl d } fun e _ => res x = .inr e) :
    FnOk P w K mg base (L2.CX P w) (k + 1) f fd ps (spX K args dom res) := by
  refine FunD.ok F S (fun vs H Q E h => ?_) (fun cdv A outer s H vs Q E hr h => ⟨t (wE E), hb cdv A outer s H E hr, ?_⟩)
  · obtain ⟨z, Y, _, h1, _⟩ := h
    rw [h1.len, hl]
  · obtain ⟨z, Y, hY, h1, hd, q, r⟩ := h
    refine run z hd Y H _ H _ _ ⟨[], env_start hY h1 (by rw [hl]; omega), by rw [cut_nil]; exact Same.refl _⟩ ⟨fun ρ σ H' hx ⟨O, I, g⟩ => ?_, fun d ρ σ v H' hx ⟨O, I, g, hv⟩ => ?_, fun ρ σ H' hx => False.elim hx, fun ρ σ H' hx => False.elim hx⟩ fun e ρ σ H' cls d hx ⟨O, I, g⟩ xo => ?_
    · exact q .non .non H' hx (g.trans (cut_le _ _)) rfl
    · exact q d v H' hx (g.trans (cut_le _ _)) (hv.mono (cut_more fun b hb => List.mem_append_right _ hb))
    · exact r e cls d H' hx (g.trans (cut_le _ _)) xo
structure DefX (P : Program) (w : World) (K : PySem.W.Frag) (mg : Str → Option Value) (base : Heap) (x : Str) (ps : List Str) (k : Nat) (sp : Sp) : Prop where
  ex : ∃ (f : Addr) (fd : FuncData), mg x = some (.ref f) ∧ PySem.W.keepIn K (.ref f) = true ∧ Binds K fd ps [] ∧ FnOk P w K mg base (L2.CX P w) k f fd ps sp
theorem pe_callX {X : Cx} {W : WX} {x : Str} {ps : List Str} {k j : Nat} {sp : Sp} {p pos : Pos} {e : Expr} {es : List Expr} {t : TA} (D : DefX X.prog X.w X.K X.mg X.base x ps k sp) (hr : Room j X.A) (hk : k ≤ j) (hg : Gl X x) (tk : Takes X W) (ha : PA X (e :: es) t)
    (hdb : (x == ("__debug__" : Str)) = false := by decide) (he : starEach (e :: es) X.env = (false, eval e X.env) :: starEach es X.env := by rfl) (hpl : (backTo pos (starEach es X.env)).any (·.1) = false := by rfl) :
    PE X (.Call (.Name x p) (e :: es) [] pos) (tCallS sp (WE W) t) := by
  refine ⟨fun pins s σ H Q I h => ?_⟩
  obtain ⟨f, fd, h1, h2, h3, h4⟩ := D.ex
  exact (pe_callS h4 (hr.mono hk) hg h1 h2 h3 (fun σ => passAt tk σ) ha hdb he hpl).run pins s σ H Q I h
end
end DL
namespace DL
open PySem PySem.Spec L2
/-- list(d), the dict may be held fast -/
def rListR : List V → Hp → VK → Prop := fun xs H Q => ∃ p kvs, xs = [.ref p] ∧ Rd H p (.dK kvs) ∧ ∀ q, H q = none → Q (.ref q) (upd H q (.lst (kvs.map fun kv => kV kv.1)))
theorem call_list_dR {X : Cx} (hc : X.calm = true) : CallR X (.type "list") rListR := by
  intro pins s σ H xs us Q I r ⟨p, kvs, e, hk, q⟩
  subst e
  obtain ⟨u, eu, rx⟩ := vals1 r
  subst eu
  obtain rfl : u = Value.ref p := rx
  obtain ⟨z, lo, vs, rk, hd⟩ := dk_rd I.hok hk
  obtain ⟨ep, hat⟩ := hd.dictAt
  have hl : kvs.length = vs.length := Paired.length rk
  refine PySem.W.kdl_call (PySem.W.kdl_dict (knd := mixKind X.prog X.w) (kvs := vs) (ep := ep) lo) (I.ok.hd hc) hat (by rw [← hl]; exact z) fun h' tk acc c' keep hS hacc => ?_
  have new : ObjOk X.prog X.w (upd H s.heap.objs.size (.lst (kvs.map fun kv => kV kv.1))) h' s.heap.objs.size (.lst (kvs.map fun kv => kV kv.1)) := by
    refine ⟨by rw [List.length_map]; exact z, acc.toList, c', vals_of_at ?_ fun j x y h1 h2 => ?_, by rw [Array.toArray_toList]; exact hS⟩
    · rw [List.length_map, hl, ← hacc.1]; simp
    · obtain ⟨k, v, hkv, hi⟩ := hacc.2 j y (by rw [← Array.getElem?_toList]; exact h2)
      have hm : (kvs.map fun kv => kV kv.1) = (vs.map (·.1)).map kV := by rw [← KV.keys rk, List.map_map]; rfl
      rw [hm, List.getElem?_map, List.getElem?_map, hkv] at h1
      cases h1
      exact keyIs_rel hi
  exact ⟨.ref s.heap.objs.size, _, I.laid keep (Nat.le_refl _) new, rfl, q _ (I.hok.fresh (Nat.le_refl _))⟩
/-- list(x), x a list, a tuple or a dict -/
def rLstA (K : PySem.W.Frag) : List V → Hp → VK → Prop := fun xs H Q => rLstOf K xs H Q ∨ rListR xs H Q
theorem call_lstA {X : Cx} (hc : X.calm = true) : CallR X (.type "list") (rLstA X.K) := CallR.or2 call_list_of (call_list_dR hc)
section
variable {K : PySem.W.Frag} {ρ : List Sl} {te : TE} {d : Dt} {ds : List Dt}
theorem rc_lstA (m : Members d ds) : RC1 K (rLstA K) d (.lst ds) := fun O Y H x dm hx Q q => .inl (rc_lst m O Y H x dm hx Q q)
/-- list(x) as a new list -/
theorem en_lstA (h : EvR K te ρ d) (m : Members d ds) : EvN K (tCB (rLstA K) (tCons te tNil)) ρ (.lst ds) := fun O Y H σ I Q q => h O Y H σ I _ fun v H1 s1 hv => by
  obtain ⟨a, xs, rfl, h2, h3⟩ := hv.members m
  refine .inl ⟨a, xs, rfl, h2, fun p hp => q p _ (s1.trans (same_new hp)) (s1.free hp) ?_⟩
  refine ⟨p, xs, rfl, List.mem_cons_self, fun z => new_out (dom_mono I.dom s1) hp (List.mem_append_right _ z), upd_same, ?_⟩
  have e : Same (cut H1 (O ++ Y)) (cut (upd H1 p (.lst xs)) (p :: O ++ Y)) := fun b o hb => by
    obtain ⟨h1, h2⟩ := cut_some.mp hb
    refine cut_some.mpr ⟨fun z => ?_, same_new hp _ _ h2⟩
    rcases List.mem_cons.mp z with z | z
    · subst z
      rw [hp] at h2
      cases h2
    · exact h1 z
  exact h3.mono e
end
end DL
namespace L2
open PySem PySem.Spec PyProof.Rows
/-- sorted(t), t a tuple of ints -/
def rSortedTI (K : PySem.W.Frag) : List V → Hp → VK → Prop := fun vs H Q => ∃ (a : Addr) (ns : List Int), vs = [V.ref a] ∧ SqT K H a (ns.map V.int) ∧
  ∀ (ns' : List Int) (p : Addr), ns'.Perm ns → ns'.Pairwise (· ≤ ·) → H p = none → Q (.ref p) (upd H p (.lst (ns'.map V.int)))
theorem cr_sortedTI {X : Cx} : CallR X (.builtin "sorted") (rSortedTI X.K) := by
  intro pins s σ H vs us Q I r h
  rcases h with ⟨a, ns, rfl, hs, q⟩
  obtain ⟨its, rv, pl, hz⟩ := I.tuple hs
  rw [Vals.ref1 r]
  have hi := rv.ints
  obtain ⟨o, ho, hc, n, hd⟩ := pl
  have hz2 : its.length ≤ sizeLine := by rw [← rv.length]; exact hz
  refine Calls.call_function_entry kind_sorted plain_sorted entry_sorted (args_sorted1 _) ?_
  unfold Builtin.«sorted»
  refine wpAny_bind (m := checkCount "sorted" 1 1 _) (wpAny_pure ?_)
  refine wpAny_bind (wpAny_collect_seq a (.inr rfl) ho hc hd (fun h1 kp => ?_) (by rw [List.size_toArray]; exact hz2))
  refine wpAny_bind (wpAny_newList ?_ hz2)
  have hp : (h1.push (seqObj "list" its.toArray 0)).get? h1.objs.size = some (seqObj "list" its.toArray 0) := Heap.get?_push_size _ rfl
  refine wpAny_bind (wpAny_holding (wpAny_call_entry slot_list_sort ⟨_, hp, rfl⟩ entry_list_sort
    (SrtO.list_sort_ord SrtO.swo_int hp hz2 (fun z => SrtO.ints_sortable hi z) fun out z1 z2 => ⟨_, rfl, ?_⟩) (args_list_sort _)))
  obtain ⟨k1, k2, k3⟩ := SrtO.ints_out hi z1 z2
  obtain ⟨ep, he'⟩ := sortedHeap_at (vs := its) (out := out.toArray) hp
  have hlen : ((out.map SrtO.iv).map V.int).length ≤ sizeLine := by
    rw [List.length_map, k2.length_eq]
    rw [List.length_map] at hz
    exact hz
  have sn : s.heap.get? h1.objs.size = none := by
    cases e : s.heap.get? h1.objs.size with
    | none => rfl
    | some u => exact absurd (Heap.lt_size (kp _ _ e)) (Nat.lt_irrefl _)
  refine wpAny_pure ⟨_, rfl, .ref h1.objs.size, upd H h1.objs.size (.lst ((out.map SrtO.iv).map V.int)), I.laidN (t' := s.toks) (h' := sortedHeap (h1.push (seqObj "list" its.toArray 0)) h1.objs.size its out.toArray) (fun b u e => ?_) sn (I.hok.gone sn) ⟨hlen, out, ep, vals_of_ints k1, he'⟩, rfl, q _ _ k2 k3 (I.hok.gone sn)⟩
  have hlt := Heap.lt_size (kp b u e)
  rw [sortedHeap_old (Nat.ne_of_lt hlt) (Nat.lt_trans hlt (Heap.lt_size hp))]
  exact Heap.get?_push_of_some _ (kp b u e)
end L2
namespace DL
open PySem PySem.Spec L2
/-- sorted: a list, a tuple or a set of ints, a dict by int keys -/
def rSortB (K : PySem.W.Frag) (w : World) : List V → Hp → VK → Prop := fun xs H Q => rSortA K w xs H Q ∨ rSortedTI K xs H Q
theorem cr_sortB {X : Cx} (hc : X.calm = true) : CallR X (.builtin "sorted") (rSortB X.K X.w) := CallR.or2 (cr_sortA hc) cr_sortedTI
theorem rc_sortT {K : PySem.W.Frag} {w : World} {ns : List Int} : RC1 K (rSortB K w) (.tup (ns.map .int)) (.lst ((isort ns).map .int)) := fun O Y H x dm hx Q q => by
  obtain ⟨a, xs, rfl, h2, h3⟩ := hx.tup
  rw [h3.ints] at h2
  refine .inr ⟨a, ns, rfl, SqT.of (cut_le _ _ _ _ h2), fun ns' p z1 z2 hp => ?_⟩
  refine q _ _ (same_new hp) ⟨p, _, rfl, .inl (cut_new dm hp), ?_⟩
  rw [isort_eq z1 z2]
  exact HasL.of_ints
/-! set(t), t a tuple of ints -/
def rSetB (K : PySem.W.Frag) (w : World) : List V → Hp → VK → Prop := fun xs H Q => ∃ (p : Addr) (ks : List Int), xs = [.ref p] ∧ SqT K H p (ks.map V.int) ∧ ks.length ≤ 1000 ∧ ∀ (a : Addr) (n : Nat), H a = none → n ≤ ks.length → Q (.ref a) (upd H a (SetO w a (fun j => decide (j ∈ ks)) n))
theorem cr_setB {X : Cx} (hc : X.calm = true) : CallR X (.type "set") (rSetB X.K X.w) := by
  intro pn st sl hp xs us Q inv rv hyp
  obtain ⟨p, ks, rfl, hq, hl, q⟩ := hyp
  obtain ⟨u, rfl, ru⟩ := vals1 rv
  cases ru
  obtain ⟨its, r, pl, hz⟩ := inv.tuple hq
  refine call_set_tupI ks (inv.ok.hd hc) pl (by simpa using ints_of_vals r) (by unfold scanBound; omega) fun h2 tk cn R1 hcn kp => ?_
  refine ⟨.ref st.heap.objs.size, _, ?_, rfl, q _ _ (inv.hok.fresh (Nat.le_refl _)) hcn⟩
  exact inv.laid (t' := tk) kp (Nat.le_refl _) (setO_new R1)
section
variable {K : PySem.W.Frag} {ρ : List Sl} {te : TE} {P : Program} {w : World} {mg : Str → Option Value} {base : Heap} {d : Dt} {k : Int} {ds : List Dt}
theorem ev_sortSetB {ns : List Int} (h : Ev K te ρ (.tup (ns.map .int))) (hl : ns.length < 64) : Ev K (tCB (rSortA K w) (tCons (tCB (rSetB K w) (tCons te tNil)) tNil)) ρ (.lst ((usort ns).map .int)) := fun O Y H σ I Q q => h O Y H σ I _ fun v H1 s1 hv => by
  obtain ⟨a, xs, rfl, h1, h2⟩ := hv
  refine ⟨a, ns, rfl, SqT.of (by rw [← h2.ints]; exact cut_le _ _ _ _ h1), by omega, fun b n hb hn => ?_⟩
  refine .inr (.inr ⟨b, _, n, rfl, upd_same, by omega, fun zs p z1 z2 z3 hp => ?_⟩)
  have s2 : Same H1 (upd H1 b (SetO w b (fun j => decide (j ∈ ns)) n)) := same_new hb
  rw [usort_eq (ns := ns) z1 fun k => (z2 k).trans (by simp)]
  exact q _ _ ((s1.trans s2).trans (same_new hp)) ⟨p, _, rfl, .inl (cut_new (dom_mono I.dom (s1.trans s2)) hp), HasL.of_ints⟩
/-! [x] * n -/
theorem HasL.rep {G : Hp} {xs : List V} (h : HasL K G ds xs) : ∀ n : Nat, HasL K G (List.replicate n ds).flatten (List.replicate n xs).flatten
  | 0 => rfl
  | n + 1 => by
    rw [List.replicate_succ, List.replicate_succ, List.flatten_cons, List.flatten_cons]
    exact h.app (HasL.rep h n)
theorem ev_rep {ta tb : TE} (h : EvN K ta ρ (.lst ds)) (hb : Ev K tb ρ (.int k)) (hk : 0 ≤ k ∧ k ≤ 1000) (hz : ds.length ≤ 1000) : Ev K (tOp rRep ta tb) ρ (.lst (List.replicate k.toNat ds).flatten) := fun O Y H σ I Q q =>
  h O Y H σ I _ fun a H1 s1 hn ho => hb O Y H1 σ (I.mono s1) _ fun y H2 s2 hy => by
    cases (show y = _ from hy)
    obtain ⟨b, xs, e1, e2, e3, e4, e5⟩ := ho
    cases e1
    have hd1 : ∀ c ∈ O ++ Y, c ≠ a := fun c hc z => I.dom c hc (by rw [z]; exact hn)
    have hl := e5.len
    refine ⟨a, k, xs, rfl, rfl, s2 _ _ e4, by omega, by omega, ?_, fun p hp => q _ _ ((s1.trans s2).trans (same_new hp)) ⟨p, _, rfl, .inl (cut_new (dom_mono I.dom (s1.trans s2)) hp), ?_⟩⟩
    · rw [hl]
      have : ds.length * k.toNat ≤ 1000 * 1000 := Nat.mul_le_mul hz (by omega)
      unfold sizeLine
      omega
    · refine (HasL.rep e5 k.toNat).mono ?_
      refine (cut_more (X := O ++ Y) (fun c hc => ?_)).trans (cut_mono (s2.trans (same_new hp)) _)
      rw [List.cons_append]
      exact List.mem_cons_of_mem _ hc
end
/-! ### calls with keywords -/
structure DefK (P : Program) (w : World) (K : PySem.W.Frag) (mg : Str → Option Value) (base : Heap) (x : Str) (ps : List Str) (n : Nat) (ks : List Str) (k : Nat) (sp : Sp) : Prop where
  ex : ∃ (f : Addr) (fd : FuncData), mg x = some (.ref f) ∧ PySem.W.keepIn K (.ref f) = true ∧ KBn K fd ps n ks (fun us ws => us ++ ws) (fun vs zs => vs ++ zs) ∧ FnOk P w K mg base CX0 k f fd ps sp
theorem bindsK {K : PySem.W.Frag} {x qual : Str} {params : Arguments} {body : List Stmt} {scope : Scope} {kws : List (Str × V)} {f : Addr} {fd : FuncData} {ps ks : List Str} (n : Nat) (F : FunD K x qual params body scope [] kws f fd)
    (h : ∀ (kV doc pm : Value) (an : Option Addr) (cdv ct : Value) (us ws : List Value), us.length = n → ws.length = ks.length → bindArgs (PySem.W.fnOf x qual params body scope .none kV doc pm an cdv ct) ⟨us, ks.zip ws⟩ = pure (ps.zip (us ++ ws))) :
    KBn K fd ps n ks (fun us ws => us ++ ws) (fun vs zs => vs ++ zs) := by
  obtain ⟨oc, od, dV, kV, doc, pm, an, cdv, ct, osl, rfl, lk, hcd, hD, hK⟩ := F.ex
  rcases hD with ⟨_, rfl⟩ | ⟨e, _⟩
  · exact ⟨fun s us ws _ l1 l2 => .of_eq (h kV doc pm an cdv ct us ws l1 l2), fun r1 r2 => r1.append r2⟩
  · exact absurd rfl e
theorem pe_callDK {X : Cx} {x : Str} {ps ks : List Str} {n k j : Nat} {sp : Sp} {p pos : Pos} {e : Expr} {es : List Expr} {kws : List Keyword} {t tk : TA} (D : DefK X.prog X.w X.K X.mg X.base x ps n ks k sp) (hr : Room j X.A) (hk : k ≤ j) (hg : Gl X x) (ha : PA X (e :: es) t) (hkw : PK X kws tk)
    (hall : (backToKw pos (keywordEach kws X.env)).all (·.1.isSome) = true := by rfl) (hks : (backToKw pos (keywordEach kws X.env)).filterMap (·.1) = ks := by rfl) (hdb : (x == ("__debug__" : Str)) = false := by decide)
    (he : starEach (e :: es) X.env = (false, eval e X.env) :: starEach es X.env := by rfl) (hpl : ((backTo pos (starEach (e :: es) X.env)).any (·.1) || (backToKw pos (keywordEach kws X.env)).any (·.1.isNone)) = false := by rfl) :
    PE X (.Call (.Name x p) (e :: es) kws pos) (tCallN n ks.length sp (fun vs zs => vs ++ zs) E0 t tk) := by
  refine ⟨fun pins s σ H Q I h => ?_⟩
  obtain ⟨f, fd, h1, h2, h3, h4⟩ := D.ex
  exact (pe_callN h4 (hr.mono hk) hg h1 h2 h3 pass0 ha hkw hall hks hdb he hpl).run pins s σ H Q I h
section
variable {K : PySem.W.Frag} {ρ : List Sl} {A : Type} {args : A → List Dt} {dom : A → Prop} {res : A → Dt} {ta tk : TA} {E : XK} {ds es : List Dt} {n m : Nat}
theorem ev_callK (x : A) (h : EvA K ta ρ ds) (h2 : EvA K tk ρ es) (he : ds ++ es = args x) (hn : ds.length = n) (hm : es.length = m) (hd : dom x) : Ev K (tCallN n m (spD K args dom res) (fun vs zs => vs ++ zs) E ta tk) ρ (res x) := fun O Y H σ I Q q => h O Y H σ I _ fun vs H1 s1 hv => h2 O Y H1 σ (I.mono s1) _ fun zs H2 s2 hz => by
  have hv2 := hv.mono (cut_mono s2 _)
  refine ⟨by rw [hv.len, hn], by rw [hz.len, hm], x, O ++ Y, dom_mono I.dom (s1.trans s2), by rw [← he]; exact hv2.app hz, hd, fun v H' s hr => q v H' ((s1.trans s2).trans s) hr⟩
end
end DL
namespace DL
open PySem PySem.Spec L2
section
variable {K : PySem.W.Frag} {ρ ρ' : List Sl} {P : Po} {te ta tb : TE} {c : TT} {t u : TS} {d e : Dt} {i j : Nat}
/-- while, by a measure -/
theorem r_while (W : Nat → List Sl → Prop) (h0 : ∃ m, W m ρ) (hs : ∀ m ρ2, W m ρ2 → ∃ b, EvT K c ρ2 b ∧ (b = true → Runs K t ρ2 { nx := fun ρ3 => ∃ m', m' < m ∧ W m' ρ3, ct := fun ρ3 => ∃ m', m' < m ∧ W m' ρ3, bk := P.nx, rt := P.rt }) ∧ (b = false → P.nx ρ2)) :
    Runs K (tWhile c t) ρ P := fun Y G σ H D S E => by
  obtain ⟨m0, w0⟩ := h0
  refine ⟨fun m σ2 H2 => ∃ ρ2, W m ρ2 ∧ Sta K Y G ρ2 σ2 H2, ⟨m0, ρ, w0, S⟩, fun m σ2 H2 ⟨ρ2, w, O, I, g⟩ => ?_⟩
  obtain ⟨b, hb, ht, hf⟩ := hs m ρ2 w
  refine hb O Y H2 σ2 I _ fun H3 s => ?_
  have S3 : Sta K Y G ρ2 σ2 H3 := ⟨O, I.mono s, g.trans (cut_mono s _)⟩
  cases b with
  | false => exact E.nx ρ2 σ2 H3 (hf rfl) S3
  | true =>
    refine ⟨fun σ4 H4 => ∃ m', m' < m ∧ ∃ ρ4, W m' ρ4 ∧ Sta K Y G ρ4 σ4 H4, fun σ4 H4 ⟨m', a, b⟩ => ⟨m', a, b⟩, ?_⟩
    exact ht rfl Y G σ2 H3 _ S3 ⟨fun ρ4 σ4 H4 ⟨m', a, w4⟩ s4 => ⟨m', a, ρ4, w4, s4⟩, E.rt, fun ρ4 σ4 H4 n4 s4 => E.nx ρ4 σ4 H4 n4 s4, fun ρ4 σ4 H4 ⟨m', a, w4⟩ s4 => ⟨m', a, ρ4, w4, s4⟩⟩
/-- a, b = a new object, data -/
theorem r_parND (h1 : EvN K ta ρ d) (h2 : Ev K tb ρ e) (k : P.nx ((ρ.set i (.own none d)).set j (.dat e))) : Runs K (tPar i j (tCons ta (tCons tb tNil))) ρ P := fun Y G σ H D ⟨O, I, g⟩ E =>
  h1 O Y H σ I _ fun a H1 s1 hn ho => by
    have I1 := I.putNew (i := i) s1 hn ho
    have g1 := new_cut I g s1 hn
    obtain ⟨o3, h3⟩ : ∃ o, H1 a = some o := by
      cases q : H1 a with
      | none => exact absurd q (own_some ho).1
      | some o => exact ⟨o, rfl⟩
    have Ih := I.hide s1 hn h3
    refine h2 O (a :: Y) H1 σ Ih _ fun v H2 s2 hv => ?_
    have hc : cut H2 (O ++ a :: Y) = cut H2 ((a :: O) ++ Y) := cut_perm fun b => by simp only [List.mem_append, List.mem_cons]; exact ⟨fun z => z.elim (fun z => .inl (.inr z)) fun z => z.elim (fun z => .inl (.inl z)) .inr, fun z => z.elim (fun z => z.elim (fun z => .inr (.inl z)) .inl) fun z => .inr (.inr z)⟩
    rw [hc] at hv
    exact ⟨.ref a, v, rfl, E.nx _ _ _ k ⟨a :: O, (I1.mono s2).put (s := .dat e) ⟨v, rfl, hv⟩ (fun _ _ z => by cases z), g1.trans (cut_mono s2 _)⟩⟩
theorem q_parND (h1 : EvN K ta ρ d) (h2 : Ev K tb ρ e) (k : Runs K u ((ρ.set i (.own none d)).set j (.dat e)) P) : Runs K (tSeq (tPar i j (tCons ta (tCons tb tNil))) u) ρ P := r_seq (r_parND h1 h2 k)
theorem new_own {O Y : List Addr} {H : Hp} {p : Addr} {ds : List Dt} {vs : List V} (hd : ∀ a ∈ O ++ Y, H a ≠ none) (hp : H p = none) (h : HasL K (cut H (O ++ Y)) ds vs) : OwnAt K (p :: O) Y (upd H p (.lst vs)) (.lst ds) (.ref p) := by
  refine ⟨p, vs, rfl, List.mem_cons_self, fun z => new_out hd hp (List.mem_append_right _ z), upd_same, h.mono fun b o hb => ?_⟩
  obtain ⟨h1, h2⟩ := cut_some.mp hb
  refine cut_some.mpr ⟨fun z => ?_, same_new hp _ _ h2⟩
  rcases List.mem_cons.mp z with z | z
  · subst z
    rw [hp] at h2
    cases h2
  · exact h1 z
theorem en_sortSetB {w : World} {ns : List Int} (h : Ev K te ρ (.tup (ns.map .int))) (hl : ns.length < 64) : EvN K (tCB (rSortA K w) (tCons (tCB (rSetB K w) (tCons te tNil)) tNil)) ρ (.lst ((usort ns).map .int)) := fun O Y H σ I Q q => h O Y H σ I _ fun v H1 s1 hv => by
  obtain ⟨a, xs, rfl, h1, h2⟩ := hv
  refine ⟨a, ns, rfl, SqT.of (by rw [← h2.ints]; exact cut_le _ _ _ _ h1), by omega, fun b n hb hn => ?_⟩
  refine .inr (.inr ⟨b, _, n, rfl, upd_same, by omega, fun zs p z1 z2 z3 hp => ?_⟩)
  have s2 : Same H1 (upd H1 b (SetO w b (fun j => decide (j ∈ ns)) n)) := same_new hb
  rw [usort_eq (ns := ns) z1 fun k => (z2 k).trans (by simp)]
  exact q _ _ ((s1.trans s2).trans (same_new hp)) ((s1.trans s2).free hp) (new_own (dom_mono I.dom (s1.trans s2)) hp HasL.of_ints)
theorem en_sortSet {w : World} {ns : List Int} (h : EvR K te ρ (.lst (ns.map .int))) (hl : ns.length < 64) : EvN K (tCB (rSortA K w) (tCons (tCB (rSetI K w) (tCons te tNil)) tNil)) ρ (.lst ((usort ns).map .int)) := fun O Y H σ I Q q => h O Y H σ I _ fun v H1 s1 hv => by
  obtain ⟨a, xs, rfl, h1, h2⟩ := hv.lst
  refine ⟨a, ns, rfl, .inl (by rw [← h2.ints]; exact h1), by omega, fun b n hb hn => ?_⟩
  refine .inr (.inr ⟨b, _, n, rfl, upd_same, by omega, fun zs p z1 z2 z3 hp => ?_⟩)
  have s2 : Same H1 (upd H1 b (SetO w b (fun j => decide (j ∈ ns)) n)) := same_new hb
  rw [usort_eq (ns := ns) z1 fun k => (z2 k).trans (by simp)]
  exact q _ _ ((s1.trans s2).trans (same_new hp)) ((s1.trans s2).free hp) (new_own (dom_mono I.dom (s1.trans s2)) hp HasL.of_ints)
/-- a or b, lists -/
theorem ev_orL {ds es : List Dt} (ha : Ev K ta ρ (.lst ds)) (hb : ds = [] → Ev K tb ρ (.lst es)) : Ev K (tOrT K ta tb) ρ (.lst (if ds.isEmpty = true then es else ds)) := fun O Y H σ I Q q => ha O Y H σ I _ fun v H1 s1 hv => by
  obtain ⟨a, xs, rfl, h1, h2⟩ := hv
  have hr : Rd H1 a (.lst xs) := (Same.rd (cut_le _ _)).rd _ _ trivial h1
  refine ⟨!xs.isEmpty, (show TruV K (.ref a) H1 (!xs.isEmpty) from .inl ⟨xs, .inl hr, rfl⟩), ?_⟩
  cases ds with
  | nil =>
    cases h2
    exact hb rfl O Y H1 σ (I.mono s1) _ fun v H2 s2 h => q v H2 (s1.trans s2) h
  | cons d ds =>
    obtain ⟨x, r, rfl, _, _⟩ := id h2
    exact q _ H1 s1 ⟨a, _, rfl, h1, h2⟩
theorem eg_slT {tl th : TO} {lo hi : Option Int} {Post : Dt → List Sl → Prop} (h : EvG K te ρ fun d ρ1 => ∃ ds, d = .tup ds ∧ EvO K tl ρ1 lo ∧ EvO K th ρ1 hi ∧ Post (.tup (cutD ds lo hi)) ρ1) : EvG K (tSl (rSlX K) te tl th) ρ Post := fun O Y H σ I Q q =>
  h O Y H σ I _ fun d ρ1 v H1 ⟨ds, e1, hl, hh, hp⟩ I1 s1 hv => by
    subst e1
    refine hl O Y H1 σ I1 _ fun H2 s2 => hh O Y H2 σ (I1.mono s2) _ fun H3 s3 => ?_
    obtain ⟨a, xs, rfl, h2, h3⟩ := hv.mono (cut_mono (s2.trans s3) _)
    have I3 := (I1.mono s2).mono s3
    refine .inl ⟨a, xs, rfl, SqT.of (cut_le _ _ _ _ h2), fun hw => ?_, fun _ p hp2 => ?_⟩
    · have e : cutD ds lo hi = ds := by
        unfold cutD
        rw [h3.len] at hw
        rw [hw.1, hw.2, List.drop_zero, Nat.sub_zero, List.take_length]
      exact q _ _ _ _ hp I3 (s1.trans (cut_mono (s2.trans s3) _)) ⟨a, xs, rfl, h2, by rw [e]; exact h3⟩
    · exact q _ _ _ _ hp (I3.mono (same_new hp2)) (s1.trans (cut_mono ((s2.trans s3).trans (same_new hp2)) _)) ⟨p, cutV xs lo hi, rfl, cut_new I3.dom hp2, (cut_has h3).mono (cut_mono (same_new hp2) _)⟩
theorem cutD_back (ds : List Dt) (n : Nat) (h : 0 < n) : cutD ds (some (-(n : Int))) none = ds.drop (ds.length - n) := by
  unfold cutD
  rw [HT.sIx_none]
  have e : HT.sIx ds.length 0 (some (-(n : Int))) = ds.length - n := by
    show (if -(n : Int) < 0 then (-(n : Int) + (ds.length : Int)).toNat else min (-(n : Int)).toNat ds.length) = ds.length - n
    rw [if_pos (by omega)]
    omega
  rw [e]
  refine List.take_of_length_le ?_
  rw [List.length_drop]
  omega
end
end DL
namespace DL
open PySem PySem.Spec L2
/-! ### dicts whose keys are numbers and None -/
def optIs : Option Int → Value → Bool
  | none, v => v == .none
  | some i, v => Value.isInt i v
theorem optIs_shape {k : Option Int} {v : Value} (h : optIs k v = true) : (k = none ∧ v = .none) ∨ ∃ i t, k = some i ∧ v = .int i t := by
  cases k with
  | none => exact .inl ⟨rfl, by simpa [optIs] using h⟩
  | some i =>
    obtain ⟨t, e⟩ := Value.isInt_shape (k := i) (v := v) h
    exact .inr ⟨i, t, rfl, e⟩
def leafO : Option Int → Leaf
  | none => .none
  | some i => .num i
theorem leafO_inj {a b : Option Int} (h : leafO a = leafO b) : a = b := by
  cases a <;> cases b <;> first | rfl | (injection h with h; rw [h]) | exact nomatch h
theorem optIs_leaf {k : Option Int} {v : Value} (h : optIs k v = true) : Leaf.isOf (leafO k) v = true := by
  rcases optIs_shape h with ⟨rfl, rfl⟩ | ⟨i, t, rfl, rfl⟩
  · rfl
  · exact decide_eq_true rfl
def optKind (prog : Program) (w : World) : PySem.KeyKind prog w (Option Int) where
  is := optIs
  hash := fun k => (leafO k).key.hash w
  inj := fun v a b ha hb => leafO_inj ((leafKind prog w).inj v _ _ (optIs_leaf ha) (optIs_leaf hb))
  byValue := fun k v h => (leafKind prog w).byValue _ v (optIs_leaf h)
  pyHash := fun hv h => (leafKind prog w).pyHash (optIs_leaf hv) h
  eqBool := fun {A E s a b u v Q} hu hv h => (leafKind prog w).eqBool (optIs_leaf hu) (optIs_leaf hv) (by
    have e : decide (leafO a = leafO b) = decide (a = b) := by
      by_cases z : a = b
      · rw [decide_eq_true z, decide_eq_true (congrArg leafO z)]
      · rw [decide_eq_false z, decide_eq_false fun y => z (leafO_inj y)]
    rw [e]
    exact h)
  «strs» := fun k x t v h => by
    rcases optIs_shape h with ⟨_, e⟩ | ⟨_, _, _, e⟩ <;> exact nomatch e
def optV : Option Int → V
  | none => .non
  | some i => .int i
theorem optV_is {k : Option Int} {u : Value} (r : RelV (optV k) u) : optIs k u = true := by
  cases k with
  | none => rw [show u = Value.none from r]; rfl
  | some i => obtain ⟨t, e⟩ := (show ∃ t, u = Value.int i t from r); subst e; simp [optIs, Value.isInt]
theorem relV_opt {k : Option Int} {u : Value} (h : optIs k u = true) : RelV (optV k) u := by
  rcases optIs_shape h with ⟨rfl, rfl⟩ | ⟨i, t, rfl, rfl⟩
  · rfl
  · exact ⟨t, rfl⟩
def trues (ks : List (Option Int)) : List (Option Int × Value) := ks.map fun k => (k, Value.bool true)
def kput (ks : List (Option Int)) (k : Option Int) : List (Option Int) := if k ∈ ks then ks else ks ++ [k]
theorem trues_put (ks : List (Option Int)) (k : Option Int) : stored (trues ks) k (.bool true) = trues (kput ks k) := by
  unfold stored kput trues
  have e : ((ks.map fun k => (k, Value.bool true)).any fun kv => decide (kv.1 = k)) = decide (k ∈ ks) := by
    rw [List.any_map]
    by_cases h : k ∈ ks
    · rw [decide_eq_true h, List.any_eq_true]
      exact ⟨k, h, decide_eq_true rfl⟩
    · rw [decide_eq_false h, List.any_eq_false]
      intro x hx z
      have := of_decide_eq_true z
      simp only at this
      subst this
      exact h hx
  rw [e]
  by_cases h : k ∈ ks
  · rw [if_pos (decide_eq_true h), if_pos h, List.map_map]
    refine List.map_congr_left fun x hx => ?_
    by_cases z : x = k <;> simp [z]
  · rw [if_neg (by rw [decide_eq_false h]; decide), if_neg h, List.map_append]
    rfl
theorem kput_len (ks : List (Option Int)) (k : Option Int) : (kput ks k).length ≤ ks.length + 1 := by
  unfold kput
  split
  · omega
  · rw [List.length_append]; simp
def DNp (w : World) (ks : List (Option Int)) (a : Addr) (h : Heap) : Prop := ks.length ≤ sizeLine ∧ (a == sysModules) = false ∧ ∀ P, h.DictOf (optKind P w) a (trues ks)
/-- such a dict, its values True -/
def DN (w : World) (ks : List (Option Int)) (a : Addr) : HO := .ext (DNp w ks a)
theorem pairs_opt {P P' : Program} {w : World} : ∀ {es : List DictEntry} {kvs : List (Option Int × Value)}, Pairs (optKind P w) es kvs → Pairs (optKind P' w) es kvs
  | _, _, .nil => .nil
  | _, _, .cons h1 h2 h3 => .cons h1 h2 (pairs_opt h3)
theorem DNp.of {P : Program} {w : World} {ks : List (Option Int)} {a : Addr} {h : Heap} (z : ks.length ≤ sizeLine) (hd : (a == sysModules) = false) (x : h.DictOf (optKind P w) a (trues ks)) : DNp w ks a h := ⟨z, hd, fun _ => let ⟨o, es, ep, h1, h2, h3, h4, h5, h6⟩ := x; ⟨o, es, ep, h1, h2, h3, h4, pairs_opt h5, h6⟩⟩
theorem dn_ok {P : Program} {w : World} {ks : List (Option Int)} {a : Addr} {H : Hp} {h : Heap} (d : DNp w ks a h) : ObjOk P w H h a (DN w ks a) := by
  refine ⟨d, ?_, fun h1 h2 d1 k => ⟨d1.1, d1.2.1, fun P => (d1.2.2 P).at' k⟩⟩
  obtain ⟨o, _, _, ho, _⟩ := d.2.2 P
  exact ⟨o, ho⟩
theorem dn_of {P : Program} {w : World} {ks : List (Option Int)} {a b : Addr} {H : Hp} {h : Heap} (x : ObjOk P w H h b (DN w ks a)) : DNp w ks a h := x.1
section
variable {X : Cx} {pins : List (Addr × Obj)} {σ : L2.St} {H : Hp} {s : Shared}
theorem dn_empty {P : Program} {w : World} {H : Hp} (h : Heap) (hb : sysModules < h.objs.size) : ObjOk P w H (h.push { cls := .type "dict", data := .dict #[] }) h.objs.size (DN w [] h.objs.size) :=
  dn_ok (DNp.of (P := P) (Nat.zero_le _) (beq_eq_false_iff_ne.mpr (Ne.symm (Nat.ne_of_lt hb))) (Heap.DictOf.new h))
theorem dn_set {E : Value → Shared → Prop} {D : Addr} {ks : List (Option Int)} {k : Option Int} {u r : Value} {Q : Unit → Shared → Prop} (I : Inv X pins σ H s) (hD : H D = some (DN X.w ks D)) (hz : ks.length < sizeLine)
    (ry : RelV (optV k) u) (rv : RelV (.bl true) r) (h : ∀ s', Inv X pins σ (upd H D (DN X.w (kput ks k) D)) s' → Q () s') : wpAny (model X.prog X.w) X.A (dictSet D u r) Q E s := by
  obtain ⟨z, hd, dd⟩ := dn_of (I.hok D _ hD)
  obtain rfl : r = Value.bool true := rv
  refine wpAny_dictSet_pairs (knd := optKind X.prog X.w) (hsz := by unfold trues; rw [List.length_map]; exact z) (optV_is ry) (dd X.prog) fun h' dd' hs => h _ ?_
  have he : ∃ q, h'.get? D = some q := let ⟨q, _, _, hq, _⟩ := dd'; ⟨q, hq⟩
  rw [trues_put] at dd'
  have hl := kput_len ks k
  exact d_write I (by rw [hD]; exact True.intro) hs he (dn_ok (DNp.of (P := X.prog) (by omega) hd dd'))
theorem Inv.frzN {d a : Addr} {o : Obj} {ks : List (Option Int)} (I : Inv X pins σ H s) (h : H d = some (.frz o (DN X.w ks d))) :
    (d == sysModules) = false ∧ s.heap.get? d = some o ∧ o.ExactDict ∧ ∃ (es : Array DictEntry) (ep : Nat), o.data = .dict es ep ∧ es.size = ks.length ∧ s.heap.DictAt (optKind X.prog X.w) d (trues ks) ep := by
  obtain ⟨hd, x⟩ := I.hok d _ h
  obtain ⟨z, hs, dd⟩ := dn_of x
  obtain ⟨o', es, ep, ho, hx, hdt, r⟩ := dd X.prog
  rw [hd] at ho
  cases ho
  refine ⟨hs, hd, hx, es, ep, hdt, ?_, o, es, hd, hx, hdt, r⟩
  have l1 := r.2.1.length
  rw [Array.length_toList] at l1
  unfold trues at l1
  rw [List.length_map] at l1
  exact l1
end
/-- the keys of the locked dict at d -/
def Itn (w : World) (d : Addr) (o : Obj) (ks : List (Option Int)) : It :=
  ⟨fun i H => H d = some (.frz o (DN w ks d)) ∧ i < ks.length, fun i H x H' => H' = H ∧ ∃ k, ks[i]? = some k ∧ x = optV k, fun i H => H d = some (.frz o (DN w ks d)) ∧ ks.length ≤ i⟩
theorem turn_keysN {P : Program} {w : World} {K : PySem.W.Frag} {tg : Expr} {d : Addr} {o : Obj} {es : Array DictEntry} {ep : Nat} {ks : List (Option Int)} (it : Addr) (hod : o.data = .dict es ep) : Turn P w K tg (Itn w d o ks) [it] it (fun i h => h.IsKeyIter it d i ks.length ep) where
  mem := by simp
  obj := fun i h st b hb => by
    obtain rfl : b = it := by simpa using hb
    obtain ⟨oi, e, c, dd⟩ := st
    exact ⟨oi, e, fun v z => by rw [dd] at z; cases z⟩
  keep := fun i h h' st k => st.at fun oi e => k it (by simp) oi e
  item := by
    intro X hP hw hK hc i pins s σ H E I hf st hg
    subst hP hw hK
    obtain ⟨hd, hi⟩ := hg
    obtain ⟨f0, f1, f2, f3, f4, f5⟩ := hf it (by simp)
    obtain ⟨hs, hgd, hx, es', ep', hdt, hsz, hm⟩ := Inv.frzN (a := d) I hd
    obtain ⟨rfl, rfl⟩ := dict_ep hod hdt
    obtain ⟨k, hk⟩ : ∃ k, ks[i]? = some k := ⟨ks[i], List.getElem?_eq_getElem hi⟩
    have hl : (trues ks).length = ks.length := by unfold trues; rw [List.length_map]
    have hu : (trues ks)[i]? = some (k, Value.bool true) := by unfold trues; rw [List.getElem?_map, hk]; rfl
    rw [← hl] at st
    refine wpAny_pyNext_dict_item st hm hu fun key h' hkey st' sb => ?_
    have I1 : Inv X pins σ H { s with heap := h' } := I.turned (t' := s.toks) (fun b ob hb e => (sb.2 b hb).trans e) f0 f1 f3 f4 f5
    obtain ⟨oi, e, c, dd⟩ := id st'
    refine ⟨key, rfl, go_of (s := { s with heap := h' }) e c dd (by decide) ⟨optV k, H, I1, relV_opt hkey, ⟨rfl, k, hk, rfl⟩, ?_, fun b hb => (hf b hb).1⟩⟩
    show h'.IsKeyIter it d (i + 1) ks.length _
    rw [← hl]
    exact st'
  done := by
    intro X hP hw hK hc i pins s σ H E I hf st hg
    subst hP hw hK
    obtain ⟨hd, hi⟩ := hg
    obtain ⟨f0, f1, f2, f3, f4, f5⟩ := hf it (by simp)
    obtain ⟨hs, hgd, hx, es', ep', hdt, hsz, hm⟩ := Inv.frzN (a := d) I hd
    obtain ⟨rfl, rfl⟩ := dict_ep hod hdt
    exact next_key_end (I.ok.hd hc) st hgd hdt hsz hi fun h' eb => ⟨rfl, I.turned (t' := s.toks) (fun b ob hb e => eb b ob hb e) f0 f1 f3 f4 f5⟩
  self := fun A i s Q E st h => wpAny_pyIter_keyiter st h
/-- for k in d, d such a dict that is held fast -/
def iKeysN (w : World) (td : TE) : TI := fun σ H R => td σ H fun x H1 => ∃ d o ks, x = .ref d ∧ H1 d = some (.frz o (DN w ks d)) ∧ R (Itn w d o ks) H1
theorem pi_keysN {X : Cx} {tg e : Expr} {td : TE} (he : PE X e td) : PI X tg e (iKeysN X.w td) := by
  refine ⟨fun pins s σ H R I h => ?_⟩
  refine thn (he.run pins s σ H _ I h) fun u s1 ⟨x, H1, I1, rx, d, o, ks, ex, hd, q⟩ => ?_
  subst ex
  obtain rfl : u = Value.ref d := rx
  obtain ⟨hs, hgd, hx, es, ep, hdt, hsz, hm⟩ := Inv.frzN (a := d) I1 hd
  refine iter_keys hs hgd hx hdt (pi_one (tk := s1.toks) I1 _ (turn_keysN _ hdt) ⟨_, Heap.get?_push_size _ rfl, rfl, ?_⟩ q)
  rw [hsz] <;> rfl
section
variable {X : Cx}
/-- {k: True for target in iter if ..}, keys numbers or None: D the new dict -/
def tDcN (w : World) (wi : TI) (g : TG) (tt : TT) (tk tv : TE) (vs : List Nat) : TE := fun σ H Q => wi σ H fun J H1 => ∀ D, H1 D = none → ∃ W : Nat → Nat → Hp → Prop, (∃ m, W 0 m (upd H1 D (DN w [] D))) ∧ ∀ i m H, W i m H →
  (J.stop i H ∧ Q (.ref D) H) ∨ (J.go i H ∧ ∃ Nx : Hp → Prop, (∀ H', Nx H' → ∃ m', m' < m ∧ W (i + 1) m' H') ∧ ∀ x H', J.yld i H x H' → g x (wipe σ vs) H' fun σ2 H2 => wipe σ2 vs = wipe σ vs ∧ tt σ2 H2 fun b H3 =>
    if b = true then tk σ2 H3 fun y H4 => tv σ2 H4 fun z H5 => ∃ ks k, y = optV k ∧ z = .bl true ∧ H5 D = some (DN w ks D) ∧ ks.length < sizeLine ∧ Nx (upd H5 D (DN w (kput ks k) D)) else Nx H3)
theorem dcN_core {pins : List (Addr × Obj)} {s : Shared} {σ : L2.St} {H : Hp} {Q : VK} {pos' : Pos} {use : Option (Value → Sem Unit)} {Qf : Value → Shared → Prop} {kx vx tg iter : Expr} {ifs : List Expr} {scope : Scope} {own : List (Str × Nat)} {pos : Pos} {wi : TI} {g : TG} {tt : TT} {tk tv : TE} (hc : X.calm = true) (hN : X.N.Nodup) (I : Inv X pins σ H s) (hi : PI X tg iter wi) (ok : BlkOk X.N X.env.scope scope own)
    (hg : ∀ (s : Shared) (H : Hp) (C : Addr) (cl : List (Str × Addr)) (fp : List Addr), PG (X.blk s H scope (compEnvC scope cl C X.env) fp) tg g) (ht : ∀ (s : Shared) (H : Hp) (C : Addr) (cl : List (Str × Addr)) (fp : List Addr), PTs (X.blk s H scope (compEnvC scope cl C X.env) fp) ifs tt)
    (hk : ∀ (s : Shared) (H : Hp) (C : Addr) (cl : List (Str × Addr)) (fp : List Addr), PE (X.blk s H scope (compEnvC scope cl C X.env) fp) kx tk)
    (he : ∀ (s : Shared) (H : Hp) (C : Addr) (cl : List (Str × Addr)) (fp : List Addr), PE (X.blk s H scope (compEnvC scope cl C X.env) fp) vx tv) (hs : ∀ x, foldedSetIterable iter X.env x = pure x)
    (h : tDcN X.w wi g tt tk tv (own.map (·.2)) σ H Q)
    (hRR : ∀ D C s' m H', Inv X pins σ H' s' → Q (.ref D) H' → s'.heap.Ns C m → FpOk X pins H' C → compPost (model X.prog X.w) X.A X.xe use Qf (.ref D) C (.ok .next) s') :
    wpAny (model X.prog X.w) X.A (comprehension (.DictComp kx vx [⟨tg, iter, ifs, 0⟩] scope pos) scope X.env pos' newDict false (eval iter X.env) use) Qf X.xe s := by
  have free : ∀ y ∈ scope.names, y.2 = .free → ∃ c, X.env.cells.lookup y.1 = some c := fun y hy e => by
    rcases ok.free y hy e with k | k
    · exact I.ok.has _ (.inl k)
    · exact I.ok.has _ (.inr k)
  refine wpAny_comprehension_free (use := use) rfl hs (closure_ok free) ok.kind (fun y hy e => by rw [ok.uniq y hy, e])
    (thn (hi.run pins s σ H _ I h) fun xv s1 hx => thn hx fun itv s2 h2 => ?_)
  obtain ⟨it, fp, tn, J, H2, e, I2, T, st2, f2, q⟩ := h2
  subst e
  refine wpAny_newObj_type (newEnv_comp ?_)
  -- the dict that is laid
  generalize hD : s2.heap.objs.size = D
  have hDn : H2 D = none := I2.hok.fresh (Nat.le_of_eq hD)
  obtain ⟨W, ⟨m0, w0⟩, turn⟩ := q D hDn
  generalize hs3 : ({ s2 with heap := s2.heap.push { cls := .type "dict", data := .dict #[] } } : Shared) = s3
  have h3 : s3.heap = s2.heap.push { cls := .type "dict", data := .dict #[] } := by rw [← hs3]
  have I3 : Inv X pins σ (upd H2 D (DN X.w [] D)) s3 := by
    rw [← hs3, ← hD]
    exact I2.laid (t' := s2.toks) (fun b o e => Heap.get?_push_of_some _ e) (Nat.le_refl _) (dn_empty s2.heap I2.big)
  have ltp : ∀ b ∈ fp, b < s2.heap.objs.size := fun b hb => by
    obtain ⟨o, e, _⟩ := T.obj _ _ st2 b hb
    exact Heap.lt_size e
  have f3 : ∀ b ∈ fp, FpOk X pins (upd H2 D (DN X.w [] D)) b ∧ b < s3.heap.objs.size := fun b hb =>
    ⟨⟨by rw [upd_ne (by rw [← hD]; exact Nat.ne_of_lt (ltp b hb))]; exact (f2 b hb).1, (f2 b hb).2⟩, by rw [h3, Heap.size_push]; exact Nat.lt_succ_of_lt (ltp b hb)⟩
  have st3 : tn 0 s3.heap := T.keep _ _ _ st2 fun b _ o e => by rw [h3]; exact Heap.get?_push_of_some _ e
  have I4 := block_start I3 ok hN f3
  generalize hcl : cellsFrom (s3.heap.objs.size + 1) scope.names (cloFrom X.env.cells scope.names []) = cl at I4
  have pg := hg s3 (upd H2 D (DN X.w [] D)) s3.heap.objs.size cl fp
  have pt := ht s3 (upd H2 D (DN X.w [] D)) s3.heap.objs.size cl fp
  have pk := hk s3 (upd H2 D (DN X.w [] D)) s3.heap.objs.size cl fp
  have pv := he s3 (upd H2 D (DN X.w [] D)) s3.heap.objs.size cl fp
  show codeAny _ _ (.compStart (.DictComp kx vx [⟨tg, iter, ifs, 0⟩] scope pos) 0 (.ref it) (.ref D) (compEnvC scope cl s3.heap.objs.size X.env)) (compPost (model X.prog X.w) X.A X.xe use Qf (.ref D) s3.heap.objs.size) { s3 with heap := pushCells (s3.heap.push { cls := .type "dict", data := .dict #[] }) scope.names }
  have nfp : ∀ b ∈ fp, (upd H2 D (DN X.w [] D)) b = none := fun b hb => (f3 b hb).1.1
  generalize hce : compEnvC scope cl s3.heap.objs.size X.env = ce at I4 pg pt pk pv ⊢
  have cL : ce.locals = s3.heap.objs.size := by rw [← hce]; rfl
  generalize hH3 : upd H2 D (DN X.w [] D) = H3 at I3 I4 pg pt pk pv w0 nfp f3
  generalize hs4 : ({ s3 with heap := pushCells (s3.heap.push { cls := .type "dict", data := .dict #[] }) scope.names } : Shared) = s4 at I4 ⊢
  have st4 : tn 0 s4.heap := T.keep _ _ _ st3 fun b _ o e => by rw [← hs4]; exact pushCells_keeps _ _ _ _ (Heap.get?_push_of_some _ e)
  have stat : ∀ {σ' : L2.St} {H' : Hp} {s' : Shared}, Inv (X.blk s3 H3 scope ce fp) [] σ' H' s' → (∀ b ∈ fp, H' b = none) → ∀ b ∈ fp, FpOk (X.blk s3 H3 scope ce fp) [] H' b := fun {σ' H' s'} I' hn b hb =>
    ⟨hn b hb, (I'.ok.exf b hb).1, I'.ok.exfs b hb, .inl hb, fun x c e => (I'.ok.exf b hb).2 x c e, fun p hp => absurd (show p ∈ ([] : List (Addr × Obj)) ++ [] from hp) (by simp)⟩
  have loop : ∀ Qg, (∀ D' C s' m H', Inv X pins σ H' s' → Q (.ref D') H' → s'.heap.Ns C m → FpOk X pins H' C → D' = D → C = s3.heap.objs.size → Qg (.ok .next) s') →
      codeAny (model X.prog X.w) X.A (.compLoop (.DictComp kx vx [⟨tg, iter, ifs, 0⟩] scope pos) 0 (.ref it) (.ref D) ce) Qg s4 := fun Qg fin => by
    refine compLoop_anyD (fun n s' => ∃ i H', Inv (X.blk s3 H3 scope ce fp) [] (wipe σ (own.map (·.2))) H' s' ∧ tn i s'.heap ∧ (∀ b ∈ fp, H' b = none) ∧ W i n H') ?_ m0 ⟨0, H3, I4, st4, nfp, w0⟩
    rintro n s5 ⟨i, H5, I5, st5, n5, w5⟩
    rcases turn i n H5 w5 with ⟨stop, qq⟩ | ⟨go, Nx, hNx, step⟩
    · refine thnF (T.done (X.blk s3 H3 scope ce fp) rfl rfl rfl hc i [] s5 _ H5 (fun _ _ => False) I5 (stat I5 n5) st5 stop) fun r s6 ⟨hr, I6⟩ => ?_
      subst hr
      have I7 : Inv X pins σ H5 s6 := I3.call' (ch := fp) I6.os I6.base I6.hok I6.bare fun b hb => ⟨(f3 b hb).1.2.2.2.1, (f3 b hb).1.2.1, (f3 b hb).1.2.2.2.2.1, (f3 b hb).1.2.2.2.2.2⟩
      have nC : H5 s3.heap.objs.size = none := by
        have z : H5 ce.locals = none := I6.free
        rw [cL] at z
        exact z
      obtain ⟨m, hn, _⟩ := I6.loc
      have hn : s6.heap.Ns ce.locals m := hn
      rw [cL] at hn
      exact fin D s3.heap.objs.size s6 m H5 I7 qq hn (I3.fpOk (Nat.le_refl _) nC) rfl rfl
    · refine thnF (T.item (X.blk s3 H3 scope ce fp) rfl rfl rfl hc i [] s5 _ H5 (fun _ _ => False) I5 (stat I5 n5) st5 go) fun r s6 ⟨u, hr, h6⟩ => ?_
      subst hr
      refine thnF h6 fun _ s7 ⟨x, H7, I7, r7, y7, st7, n7⟩ => ?_
      refine thnF (pg.run _ s7 _ H7 x u _ (I7.pinned (stat I7 n7) (T.obj _ _ st7)) r7 (step x H7 y7)) fun _ s8 ⟨σ8, H8, I8, hw8, q8⟩ => ?_
      refine thnF (pt.run _ s8 σ8 H8 _ I8 q8) fun b s9 ⟨H9, I9, q9⟩ => ?_
      have next : ∀ {s' : Shared} {H' : Hp}, Inv (X.blk s3 H3 scope ce fp) ([] ++ pinsAt fp s7.heap) σ8 H' s' → Nx H' → ∃ m, m < n ∧ ∃ i H', Inv (X.blk s3 H3 scope ce fp) [] (wipe σ (own.map (·.2))) H' s' ∧ tn i s'.heap ∧ (∀ b ∈ fp, H' b = none) ∧ W i m H' := fun {s' H'} I' nx => by
        obtain ⟨m', hm, w'⟩ := hNx H' nx
        have pin' : ∀ b ∈ fp, ∀ o, s7.heap.get? b = some o → s'.heap.get? b = some o ∧ H' b = none := fun b hb o e =>
          let z := I'.pin (b, o) (List.mem_append_right _ (List.mem_append_right _ (mem_pinsAt hb e)))
          ⟨z.1, z.2.1⟩
        refine ⟨m', hm, i + 1, H', (I'.unpinned (pins := [])).weak (by rw [← hw8, wipe_length]) (fun j v e => ?_), T.keep _ _ _ st7 fun b hb o e => (pin' b hb o e).1, fun b hb => ?_, w'⟩
        · rw [← hw8] at e
          exact (wipe_some e).1
        · obtain ⟨o, e, _⟩ := T.obj _ _ st7 b hb
          exact (pin' b hb o e).2
      cases b with
      | false =>
        simp only [Bool.false_eq_true, if_false] at q9 ⊢
        exact next I9 q9
      | true =>
        simp only [if_true] at q9 ⊢
        refine thnF (pk.run _ s9 σ8 H9 _ I9 q9) fun z s10 ⟨yk, H10, I10, r10, q10⟩ => ?_
        refine thnF (pv.run _ s10 σ8 H10 _ I10 q10) fun z2 s11 ⟨yv, H11, I11, r11, ks, k, ek, ev, hD11, hz11, nx⟩ => ?_
        subst ek ev
        exact dn_set (X := X.blk s3 H3 scope ce fp) I11 hD11 hz11 r10 r11 fun s12 I12 => next I12 nx
  refine codeAny_compStart_dict (loop _ fun D' C s' m H' I' q hn f eD eC => ?_) (T.self X.A 0 _ _ _ st4 (loop _ fun D' C s' m H' I' q hn f eD eC => ?_))
  all_goals
    subst eD eC
    exact hRR _ _ s' m H' I' q hn f
theorem pe_dcN {kx vx tg iter : Expr} {ifs : List Expr} {scope : Scope} {own : List (Str × Nat)} {pos : Pos} {wi : TI} {g : TG} {tt : TT} {tk tv : TE} (hc : X.calm = true) (hN : X.N.Nodup) (hi : PI X tg iter wi) (ok : BlkOk X.N X.env.scope scope own)
    (hg : ∀ (s : Shared) (H : Hp) (C : Addr) (cl : List (Str × Addr)) (fp : List Addr), PG (X.blk s H scope (compEnvC scope cl C X.env) fp) tg g) (ht : ∀ (s : Shared) (H : Hp) (C : Addr) (cl : List (Str × Addr)) (fp : List Addr), PTs (X.blk s H scope (compEnvC scope cl C X.env) fp) ifs tt)
    (hk : ∀ (s : Shared) (H : Hp) (C : Addr) (cl : List (Str × Addr)) (fp : List Addr), PE (X.blk s H scope (compEnvC scope cl C X.env) fp) kx tk)
    (he : ∀ (s : Shared) (H : Hp) (C : Addr) (cl : List (Str × Addr)) (fp : List Addr), PE (X.blk s H scope (compEnvC scope cl C X.env) fp) vx tv) (hs : ∀ x, foldedSetIterable iter X.env x = pure x := by intro _; rfl) :
    PE X (.DictComp kx vx [⟨tg, iter, ifs, 0⟩] scope pos) (tDcN X.w wi g tt tk tv (own.map (·.2))) := by
  refine ⟨fun pins s σ H Q I h => ?_⟩
  rw [arm_eval_DictComp]
  refine dcN_core hc hN I hi ok hg ht hk he hs h fun D C s' m H' I' q hn f => ⟨m, hn, fun h'' sb => ?_⟩
  obtain ⟨f0, f1, f2, f3, f4, f5⟩ := f
  exact ⟨.ref D, H', I'.turned (t' := s'.toks) (fun b o hb e => (sb.2 b hb).trans e) f0 f1 f3 f4 f5, rfl, q⟩
/-- name = {..} on one line, the name a local -/
theorem ps_setDcN {i : Nat} {y : Str} {py spos : Pos} {kx vx tg iter : Expr} {ifs : List Expr} {scope : Scope} {own : List (Str × Nat)} {pos : Pos} {wi : TI} {g : TG} {tt : TT} {tk tv : TE} (hc : X.calm = true) (hN : X.N.Nodup) (hy : X.N[i]? = some y) (hyl : X.env.scope.names.lookup y = some .local) (hsw : swapsWith (.DictComp kx vx [⟨tg, iter, ifs, 0⟩] scope pos) (some (.Name y py)) spos.line X.env = pure true) (hi : PI X tg iter wi) (ok : BlkOk X.N X.env.scope scope own)
    (hg : ∀ (s : Shared) (H : Hp) (C : Addr) (cl : List (Str × Addr)) (fp : List Addr), PG (X.blk s H scope (compEnvC scope cl C X.env) fp) tg g) (ht : ∀ (s : Shared) (H : Hp) (C : Addr) (cl : List (Str × Addr)) (fp : List Addr), PTs (X.blk s H scope (compEnvC scope cl C X.env) fp) ifs tt)
    (hk : ∀ (s : Shared) (H : Hp) (C : Addr) (cl : List (Str × Addr)) (fp : List Addr), PE (X.blk s H scope (compEnvC scope cl C X.env) fp) kx tk)
    (he : ∀ (s : Shared) (H : Hp) (C : Addr) (cl : List (Str × Addr)) (fp : List Addr), PE (X.blk s H scope (compEnvC scope cl C X.env) fp) vx tv) (hs : ∀ x, foldedSetIterable iter X.env x = pure x := by intro _; rfl) :
    PS X (.Assign [.Name y py] (.DictComp kx vx [⟨tg, iter, ifs, 0⟩] scope pos) spos) (tAsg (tDcN X.w wi g tt tk tv (own.map (·.2))) (gName i)) := by
  refine ⟨fun pins s σ H D I h => ?_⟩
  rw [exec_Assign_Name_used _ _ _ _ hsw]
  refine wpAny_bind (wpAny_standAt (wpAny_bind ?_))
  show wpAny _ X.A (do let _ ← comprehension (.DictComp kx vx [⟨tg, iter, ifs, 0⟩] scope pos) scope X.env (firstIterPos [⟨tg, iter, ifs, 0⟩] pos) newDict false (eval iter X.env) (some (assign (.Name y py) X.env))) _ _ s
  have h : tDcN X.w wi g tt tk tv (own.map (·.2)) σ H (fun x H1 => gName i x σ H1 D.nx) := h
  refine wpAny_bind (thn (dcN_core (Qf := fun _ s' => SP X pins D .next s') hc hN I hi ok hg ht hk he hs h fun L C s' m H' I' q hn f => ?_) fun _ s' hq => wpAny_pure (wpAny_pure hq))
  show wpAny _ _ (assign (.Name y py) X.env (.ref L)) _ _ _
  refine wpAny_assign_Name (store_ok2 (v := V.ref L) I' hN hy (.inl hyl) rfl (fun s2 I2 ⟨a, sb, ha⟩ => ?_) (.inr hyl))
  obtain ⟨f0, f1, f2, f3, f4, f5⟩ := f
  have haC : C ≠ a := by
    rcases ha with z | z
    · rw [z]; exact f1
    · exact fun e => f4 y a z e.symm
  refine ⟨m, hn.sameBut sb haC, fun h3 sb3 => ?_⟩
  exact ⟨_, H', I2.turned (t' := s2.toks) (fun b o hb e => (sb3.2 b hb).trans e) f0 f1 f3 f4 f5, q⟩
theorem sw_trueD {kx vx : Expr} {gs : List Comprehension} {scope : Scope} {pos py : Pos} {y : Str} {l : Nat} {env : PySem.Env} (hk : env.scope.kind = .function) (hy : env.scope.names.lookup y = some .local) (hl : (py.line == pos.line) = true)
    (ha : (scope.names.any fun (n, k) => n == y && (k == .local || k == .cell)) = false) : swapsWith (.DictComp kx vx gs scope pos) (some (.Name y py)) l env = pure true := by
  have ky : env.kindOf y = some .local := hy
  have hb : env.blockKind = .function := by unfold Env.blockKind; rw [hk]; rfl
  unfold swapsWith
  simp only [hb, ky, ha, Expr.pos, hl]
  rfl
end
end DL
namespace DL
open PySem PySem.Spec L2
def dnD (w : World) (ks : List (Option Int)) : Dt := .on (fun a _ => DN w ks a) []
def optI : Option Int → Dt
  | none => .non
  | some i => .int i
def nkeys {α : Type} (k : α → Option Int) (xs : List α) : List (Option Int) := xs.foldl (fun l x => kput l (k x)) []
theorem nkeys_len {α : Type} (k : α → Option Int) (xs : List α) : (nkeys k xs).length ≤ xs.length := by
  have key : ∀ (zs : List α) (l : List (Option Int)), (zs.foldl (fun l x => kput l (k x)) l).length ≤ l.length + zs.length := fun zs => by
    induction zs with
    | nil => intro l; exact Nat.le_refl _
    | cons z zs ih =>
      intro l
      have h1 := ih (kput l (k z))
      have h2 := kput_len l (k z)
      rw [List.foldl_cons, List.length_cons]
      omega
  have := key xs []
  rw [List.length_nil] at this
  unfold nkeys
  omega
theorem mem_kput {l : List (Option Int)} {k z : Option Int} : z ∈ kput l k ↔ z ∈ l ∨ z = k := by
  unfold kput
  split
  · rename_i h
    exact ⟨.inl, fun y => y.elim id fun e => e ▸ h⟩
  · rw [List.mem_append, List.mem_singleton]
theorem mem_nkeys {α : Type} {k : α → Option Int} {xs : List α} {z : Option Int} : z ∈ nkeys k xs ↔ ∃ x ∈ xs, k x = z := by
  have key : ∀ (zs : List α) (l : List (Option Int)), z ∈ zs.foldl (fun l x => kput l (k x)) l ↔ z ∈ l ∨ ∃ x ∈ zs, k x = z := fun zs => by
    induction zs with
    | nil => intro l; simp
    | cons y zs ih =>
      intro l
      rw [List.foldl_cons, ih, mem_kput]
      simp only [List.mem_cons, exists_eq_or_imp]
      constructor
      · rintro ((h | h) | h)
        · exact .inl h
        · exact .inr (.inl h.symm)
        · exact .inr (.inr h)
      · rintro (h | h | h)
        · exact .inl (.inl h)
        · exact .inl (.inr h.symm)
        · exact .inr h
  unfold nkeys
  rw [key]
  simp
section
variable {K : PySem.W.Frag} {w : World} {ρ ρ' : List Sl} {P : Po} {te ta tb tx tk tv td : TE} {d e : Dt} {i j : Nat} {wi : TI} {g : TG} {tt : TT}
theorem Has.opt {H : Hp} {k : Option Int} {v : V} (h : Has K H (optI k) v) : v = optV k := by
  cases k <;> exact h
theorem has_opt {H : Hp} {k : Option Int} : Has K H (optI k) (optV k) := by
  cases k <;> rfl
structure DnTurn (K : PySem.W.Frag) (g : TG) (tt : TT) (tk tv : TE) (vs : List Nat) (ρ : List Sl) (d : Dt) (k : Option Int) : Prop where
  ex : ∃ sl ρ', (∀ i ∈ sl, i ∈ vs) ∧ Tg K g sl d (wipeS ρ vs) ρ' ∧ EvT K tt ρ' true ∧ Ev K tk ρ' (optI k) ∧ Ev K tv ρ' (.bl true)
theorem nkeys_snoc {α : Type} {k : α → Option Int} {xs : List α} {x : α} : nkeys k (xs ++ [x]) = kput (nkeys k xs) (k x) := by
  unfold nkeys
  rw [List.foldl_append]
  rfl
theorem ev_dcN {α : Type} {vs : List Nat} (en : α → Dt) (xs : List α) (k : α → Option Int) (h : EvIR K wi ρ (xs.map en)) (ht : ∀ x, x ∈ xs → DnTurn K g tt tk tv vs ρ (en x) (k x)) (hz : xs.length < sizeLine) :
    Ev K (tDcN w wi g tt tk tv vs) ρ (dnD w (nkeys k xs)) := fun O Y H σ I Q q => by
  refine h O Y H σ I _ fun J H1 s1 wk => fun D hD => ?_
  have hDn : H D = none := s1.free hD
  have hDX : D ∉ O ++ Y := new_out (dom_mono I.dom s1) hD
  have I1 := I.mono s1
  refine ⟨fun i m H2 => m = xs.length - i ∧ i ≤ xs.length ∧ Same H1 H2 ∧ H2 D = some (DN w (nkeys k (xs.take i)) D), ⟨xs.length, by omega, by omega, same_new hD, upd_same⟩, fun i m H2 hW => ?_⟩
  obtain ⟨hm, hi, s2, hws⟩ := hW
  have dmZ : ∀ a ∈ (O ++ [D]) ++ Y, H2 a ≠ none := fun a ha => by
    simp only [List.mem_append, List.mem_singleton] at ha
    rcases ha with (z | z) | z
    · exact Same.dom s2 (I1.dom a (List.mem_append_left _ z))
    · subst z
      rw [hws]
      exact fun z => by cases z
    · exact Same.dom s2 (I1.dom a (List.mem_append_right _ z))
  obtain ⟨w1, w2, w3⟩ := wk i H2 [D] s2 (fun a ha => by rw [List.mem_singleton.mp ha]; exact hD) dmZ
  rw [List.length_map] at w1 w2
  by_cases hlt : i < xs.length
  · refine .inr ⟨w1 hlt, fun H3 => Same H1 H3 ∧ H3 D = some (DN w (nkeys k (xs.take (i + 1))) D), fun H3 ⟨a1, a2⟩ => ⟨xs.length - (i + 1), by omega, rfl, hlt, a1, a2⟩, fun x H3 hy => ?_⟩
    obtain ⟨s3, w4⟩ := w3 x H3 hy
    have hx : xs[i]? = some xs[i] := List.getElem?_eq_getElem hlt
    obtain ⟨sl, ρ', hsl, tg, ett, ek, ev⟩ := (ht xs[i] (List.getElem_mem hlt)).ex
    have hdd : (xs.map en)[i]? = some (en xs[i]) := by rw [List.getElem?_map, hx]; rfl
    have tke : xs.take (i + 1) = xs.take i ++ [xs[i]] := by rw [List.take_add_one, hx]; rfl
    have s13 : Same H1 H3 := s2.trans s3
    have hws3 := s3 _ _ hws
    have I3 : Env K O (D :: Y) H3 ρ σ := I1.hide s13 hD hws3
    have hit : Has K (cut H3 (O ++ (D :: Y))) (en xs[i]) x := by
      have := w4 _ hdd
      rw [List.append_assoc] at this
      exact this
    refine tg O (D :: Y) H3 (wipe σ vs) x (I3.wipe vs) hit _ fun σ4 I4 l4 k4 => ⟨wipe_set l4 fun k hk => k4 k fun z => hk (hsl k z), ?_⟩
    refine ett O (D :: Y) H3 σ4 I4 _ fun H4 s4 => ?_
    rw [if_pos rfl]
    refine ek O (D :: Y) H4 σ4 (I4.mono s4) _ fun y H5 s5 hy5 => ?_
    refine ev O (D :: Y) H5 σ4 (I4.mono (s4.trans s5)) _ fun z H6 s6 hz6 => ?_
    have s36 := (s4.trans s5).trans s6
    refine ⟨nkeys k (xs.take i), k xs[i], hy5.opt, hz6, s36 _ _ hws3, ?_, fun b o hb => ?_, ?_⟩
    · have h1 := nkeys_len k (xs.take i)
      have h2 : (xs.take i).length ≤ xs.length := by rw [List.length_take]; omega
      omega
    · have hbD : b ≠ D := ne_of_none hb hD
      rw [upd_ne hbD]
      exact (s13.trans s36) _ _ hb
    · rw [upd_same, tke, nkeys_snoc]
  · have e : i = xs.length := by omega
    subst e
    refine .inl ⟨w2 (by omega), q _ H2 (s1.trans s2) ?_⟩
    rw [List.take_length] at hws
    exact ⟨D, [], rfl, trivial, .inl (cut_some.mpr ⟨hDX, hws⟩), rfl⟩
theorem wk_keysN {O Y : List Addr} {H : Hp} {a : Addr} {o : Obj} {ks : List (Option Int)} (h : H a = some (.frz o (DN w ks a))) : WkR K (Itn w a o ks) O Y H (ks.map optI) := fun i H' Z s hz hd => by
  have h' := s _ _ h
  refine ⟨fun hi => ⟨h', by rw [List.length_map] at hi; exact hi⟩, fun hi => ⟨h', by rw [List.length_map] at hi; exact hi⟩, fun x H'' hy => ?_⟩
  obtain ⟨rfl, k, e1, rfl⟩ := hy
  refine ⟨Same.refl _, fun d hd => ?_⟩
  rw [List.getElem?_map, e1] at hd
  cases hd
  exact has_opt
theorem en_lockLcN {α : Type} {vs : List Nat} {ks : List (Option Int)} (en : α → Dt) (xs : List α) (cc : α → Bool) (f : α → Dt) (hi : ρ[i]? = some (.dat (dnD w ks))) (hk : ks.map optI = xs.map en)
    (ht : ∀ x, x ∈ xs → LcTurn K g tt te vs ρ (en x) (cc x) (f x)) (hz : xs.length < sizeLine) : EvN K (tLockW (tLc (iKeysN w (tVar i)) g tt te vs)) ρ (.lst (made cc f xs)) := fun O Y H σ I Q q => by
  obtain ⟨v, hv, a, xs0, rfl, hb0, h1, _⟩ := I.dat hi
  have hka : ks.map optI = xs.mapIdx fun _ x => en x := by rw [mapIdx_map]; exact hk
  have htI : ∀ i x, xs[i]? = some x → LcTurn K g tt te vs ρ ((fun _ x => en x) i x) (cc x) (f x) := fun i x hx => ht x (List.mem_of_getElem? hx)
  rcases h1 with h1 | ⟨o, h1⟩
  · left
    obtain ⟨haX, hH⟩ := cut_some.mp h1
    refine ⟨a, _, hH, trivial, fun od => ?_⟩
    have rl : RdLe H (upd H a (.frz od (DN w ks a))) := lock_rd hH trivial (fun z => z)
    have I1 : Env K O Y (upd H a (.frz od (DN w ks a))) ρ σ := by
      refine I.rdle rl (fun b hb o hbo => ?_) fun b hb => ?_
      · rw [upd_ne (fun z => haX (by rw [← z]; exact List.mem_append_left _ hb))]
        exact hbo
      · by_cases z : b = a
        · subst z; rw [upd_same]; exact fun z => by cases z
        · rw [upd_ne z]; exact hb
    refine lc_at (fun _ x => en x) xs cc f I1 (fun R r => ?_) htI hz fun D H' s hD ho => ⟨s _ _ upd_same, ?_⟩
    · exact ⟨_, hv, a, od, ks, rfl, upd_same, r _ _ (Same.refl _) (hka ▸ wk_keysN upd_same)⟩
    · have hDa : D ≠ a := fun z => by subst z; rw [upd_same] at hD; cases hD
      have hDn : H D = none := by rw [upd_ne hDa] at hD; exact hD
      have hfr : H' a = some (.frz od (DN w ks a)) := s _ _ upd_same
      refine q D _ (fun b o hb => ?_) hDn (ho.rdle (unlock_rd hfr) fun b hb o hbo => ?_)
      · by_cases z : b = a
        · subst z
          rw [hH] at hb
          cases hb
          exact upd_same
        · rw [upd_ne z]
          exact s _ _ (by rw [upd_ne z]; exact hb)
      · have hba : b ≠ a := fun z => by
          rcases List.mem_cons.mp hb with w | w
          · exact hDa (by rw [← w, z])
          · exact haX (by rw [← z]; exact List.mem_append_left _ w)
        rw [upd_ne hba]
        exact hbo
  · right
    obtain ⟨haX, hH⟩ := cut_some.mp h1
    refine lc_at (fun _ x => en x) xs cc f I (fun R r => ?_) htI hz fun D H' s hD ho => q D H' s hD ho
    exact ⟨_, hv, a, o, ks, rfl, hH, r _ _ (Same.refl _) (hka ▸ wk_keysN hH)⟩
end
end DL
namespace DL
open PySem PySem.Spec L2
section
variable {K : PySem.W.Frag} {w : World} {ρ ρ' : List Sl} {P : Po} {te ta tb tx tk tv td : TE} {d e : Dt} {i j : Nat} {wi : TI} {g : TG} {tt : TT} {ds : List Dt}
theorem HasL.rev {H : Hp} : ∀ {ds : List Dt} {xs : List V}, HasL K H ds xs → HasL K H ds.reverse xs.reverse
  | [], _, h => by cases (show _ = [] from h); exact rfl
  | d :: ds, _, ⟨v, r, e, h1, h2⟩ => by
    subst e
    rw [List.reverse_cons, List.reverse_cons]
    exact HasL.app (HasL.rev h2) ⟨v, [], rfl, h1, rfl⟩
/-- xs[::-1] -/
theorem en_revL (h : EvR K te ρ (.lst ds)) : EvN K (tRevL K te) ρ (.lst ds.reverse) := fun O Y H σ I Q q => h O Y H σ I _ fun v H1 s1 hv => by
  obtain ⟨a, xs, rfl, h2, h3⟩ := hv.lst
  refine ⟨a, xs, rfl, .inl h2, fun p hp => q p _ (s1.trans (same_new hp)) (s1.free hp) ?_⟩
  refine ⟨p, xs.reverse, rfl, List.mem_cons_self, fun z => new_out (dom_mono I.dom s1) hp (List.mem_append_right _ z), upd_same, ?_⟩
  refine h3.rev.mono fun b o hb => ?_
  obtain ⟨h1, h2⟩ := cut_some.mp hb
  refine cut_some.mpr ⟨fun z => ?_, same_new hp _ _ h2⟩
  rcases List.mem_cons.mp z with z | z
  · subst z
    rw [hp] at h2
    cases h2
  · exact h1 z
/-- list(d) -/
theorem en_listDK {ks : List Key} (h : EvR K te ρ (.dk ks ds)) : EvN K (tCB (rLstA K) (tCons te tNil)) ρ (.lst (ks.map kD)) := fun O Y H σ I Q q => h O Y H σ I _ fun v H1 s1 hv => by
  obtain ⟨a, xs, rfl, h2, hl, h3⟩ := hv.dk
  refine .inr ⟨a, _, rfl, h2, fun p hp => q p _ (s1.trans (same_new hp)) (s1.free hp) ?_⟩
  refine ⟨p, _, rfl, List.mem_cons_self, fun z => new_out (dom_mono I.dom s1) hp (List.mem_append_right _ z), upd_same, ?_⟩
  have e : ((ks.zip xs).map fun kv => kV kv.1) = ks.map kV := by
    rw [show (fun kv : Key × V => kV kv.1) = kV ∘ Prod.fst from rfl, ← List.map_map, List.map_fst_zip (by omega)]
  rw [e]
  have key : ∀ {G : Hp} (l : List Key), HasL K G (l.map kD) (l.map kV) := fun {G} l => by
    induction l with
    | nil => exact rfl
    | cons k l ih => exact ⟨_, _, rfl, by cases k <;> rfl, ih⟩
  exact key ks
/-- {k: x} -/
theorem en_disp1 {α : Type} {F : α → Dt} {k : Int} {x : α} (hk : Ev K tk ρ (.int k)) (hv : Ev K tv ρ (F x)) : EvN K (tDisp [(tk, tv)]) ρ (dkI F [(k, x)]) := fun O Y H σ I Q q => fun p hp => by
  have hpX : p ∉ O ++ Y := new_out I.dom hp
  have s0 : Same H (upd H p (.dK [])) := same_new hp
  have I1 : Env K O (p :: Y) (upd H p (.dK [])) ρ σ := I.hide s0 hp upd_same
  refine hk O (p :: Y) _ σ I1 _ fun y H1 s1 hy => ?_
  cases (show y = _ from hy)
  refine hv O (p :: Y) H1 σ (I1.mono s1) _ fun z H2 s2 hz => ?_
  have e2 : H2 p = some (.dK []) := s2 _ _ (s1 _ _ upd_same)
  refine ⟨e2, [(.inl k, z)], rfl, (by show 1 ≤ 15; decide), q p _ (fun b o hb => ?_) hp ?_⟩
  · have hbp : b ≠ p := ne_of_none hb hp
    rw [upd_ne hbp]
    exact s2 _ _ (s1 _ _ (s0 _ _ hb))
  · have perm : cut H2 (O ++ (p :: Y)) = cut H2 (p :: O ++ Y) := cut_perm fun b => by
      simp only [List.mem_append, List.mem_cons, List.cons_append]
      constructor
      · rintro (z | z | z) <;> simp [z]
      · rintro (z | z | z) <;> simp [z]
    refine AHas.own (r := [(k, z)]) ?_ ?_ List.mem_cons_self fun z => hpX (List.mem_append_right _ z)
    · rw [cut_upd_in (show p ∈ p :: O ++ Y from List.mem_cons_self), ← perm]
      exact .cons hz .nil
    · rw [upd_same]
      rfl
/-- what d.items() walks -/
theorem wk_items {α : Type} {F : α → Dt} {O Y : List Addr} {H : Hp} {a : Addr} {o : Obj} {l : List (Int × α)} {r : List (Int × V)} (h : H a = some (.frz o (.dK (kvI r)))) (hl : AHas K (cut H (O ++ Y)) F l r) :
    WkR K (Iti a o (kvI r)) O Y H (l.map fun p => .tup [.int p.1, F p.2]) := fun i H' Z s hz hd => by
  have h' := s _ _ h
  have hlen := hl.len
  refine ⟨fun hi => ⟨h', ?_⟩, fun hi => ⟨h', ?_⟩, fun x H'' hy => ?_⟩
  · rw [kvI_len, hlen]; rw [List.length_map] at hi; exact hi
  · rw [kvI_len, hlen]; rw [List.length_map] at hi; exact hi
  · obtain ⟨T, k, v, e1, rfl, hT, rfl⟩ := hy
    refine ⟨same_new hT, fun d hdd => ?_⟩
    rw [List.getElem?_map] at hdd
    obtain ⟨p, g1, g2⟩ := Option.map_eq_some_iff.mp hdd
    subst g2
    have key : ∀ {l : List (Int × α)} {r : List (Int × V)} {i : Nat} {p : Int × α}, AHas K (cut H (O ++ Y)) F l r → l[i]? = some p → ∃ v, (kvI r)[i]? = some (.inl p.1, v) ∧ Has K (cut H (O ++ Y)) (F p.2) v := fun {l r i p} hh => by
      induction hh generalizing i with
      | nil => intro e; simp at e
      | cons hv _ ih =>
        intro e
        cases i with
        | zero => cases e; exact ⟨_, rfl, hv⟩
        | succ i => exact ih e
    obtain ⟨v', k1, k2⟩ := key hl g1
    rw [k1] at e1
    cases e1
    exact ⟨T, _, rfl, cut_new hd hT, _, _, rfl, rfl, _, _, rfl, k2.mono ((cut_fresh s hz).trans (cut_mono (same_new hT) _)), rfl⟩
theorem en_lockLcI {α : Type} {F : α → Dt} {vs : List Nat} {l : List (Int × α)} (cc : Int × α → Bool) (f : Int × α → Dt) (h : FixAt K td ρ (dkI F l))
    (ht : ∀ p, p ∈ l → LcTurn K g tt te vs ρ (.tup [.int p.1, F p.2]) (cc p) (f p)) (hz : l.length < sizeLine) : EvN K (tLockW (tLc (iItems td) g tt te vs)) ρ (.lst (made cc f l)) := fun O Y H σ I Q q => by
  obtain ⟨a, ⟨a', ys, e0, h1, h2, h3⟩, h4⟩ := h O Y H σ I
  cases e0
  have hka : (l.map fun p => Dt.tup [.int p.1, F p.2]) = l.mapIdx fun _ p => .tup [.int p.1, F p.2] := (mapIdx_map _ _).symm
  have htI : ∀ i x, l[i]? = some x → LcTurn K g tt te vs ρ ((fun _ p => Dt.tup [.int p.1, F p.2]) i x) (cc x) (f x) := fun i x hx => ht x (List.mem_of_getElem? hx)
  have h3' : AHas K (cut H (O ++ Y)) F l ((l.map (·.1)).zip ys) := AHas.of h3
  have hzk : (l.map fun p => (Sum.inl p.1 : Key)).zip ys = kvI ((l.map (·.1)).zip ys) := zip_kvI l ys (by rw [List.length_map] at h2; exact h2)
  rw [hzk] at h1
  generalize (l.map (·.1)).zip ys = r at h1 h3'
  rcases h1 with h1 | ⟨o, h1⟩
  · left
    obtain ⟨haX, hH⟩ := cut_some.mp h1
    refine ⟨a, _, hH, trivial, fun od => ?_⟩
    have rl : RdLe H (upd H a (.frz od (.dK (kvI r)))) := lock_rd hH trivial (fun z => z)
    have I1 : Env K O Y (upd H a (.frz od (.dK (kvI r)))) ρ σ := by
      refine I.rdle rl (fun b hb o hbo => ?_) fun b hb => ?_
      · rw [upd_ne (fun z => haX (by rw [← z]; exact List.mem_append_left _ hb))]
        exact hbo
      · by_cases z : b = a
        · subst z; rw [upd_same]; exact fun z => by cases z
        · rw [upd_ne z]; exact hb
    refine lc_at (fun _ p => Dt.tup [.int p.1, F p.2]) l cc f I1 (fun R q2 => ?_) htI hz fun D H' s hD ho => ⟨s _ _ upd_same, ?_⟩
    · exact h4 _ rl _ ⟨a, od, _, rfl, upd_same, q2 _ _ (Same.refl _) (hka ▸ wk_items upd_same (h3'.imp fun x v hv => hv.monoR (cut_rd rl _)))⟩
    · have hDa : D ≠ a := fun z => by subst z; rw [upd_same] at hD; cases hD
      have hDn : H D = none := by rw [upd_ne hDa] at hD; exact hD
      have hfr : H' a = some (.frz od (.dK (kvI r))) := s _ _ upd_same
      refine q D _ (fun b o hb => ?_) hDn (ho.rdle (unlock_rd hfr) fun b hb o hbo => ?_)
      · by_cases z : b = a
        · subst z
          rw [hH] at hb
          cases hb
          exact upd_same
        · rw [upd_ne z]
          exact s _ _ (by rw [upd_ne z]; exact hb)
      · have hba : b ≠ a := fun z => by
          rcases List.mem_cons.mp hb with w | w
          · exact hDa (by rw [← w, z])
          · exact haX (by rw [← z]; exact List.mem_append_left _ w)
        rw [upd_ne hba]
        exact hbo
  · right
    obtain ⟨haX, hH⟩ := cut_some.mp h1
    refine lc_at (fun _ p => Dt.tup [.int p.1, F p.2]) l cc f I (fun R q2 => ?_) htI hz fun D H' s hD ho => q D H' s hD ho
    exact h4 _ (Same.rd (Same.refl _)) _ ⟨a, o, _, rfl, hH, q2 _ _ (Same.refl _) (hka ▸ wk_items hH h3')⟩
end
end DL
namespace DL
open PySem PySem.Spec L2
def topS (i : Nat) : Stmt := PySem.Challenge.pw_runforetold_k23_whole_first_unordered_pa.main.body.getD i (.Pass ⟨0, 0, 0, 0⟩)
abbrev s__wall : Stmt := topS 0
abbrev s_is_integer : Stmt := topS 2
abbrev s_is_from : Stmt := topS 3
abbrev s_is_index : Stmt := topS 4
abbrev s_is_tuple_of : Stmt := topS 5
abbrev s_is_event : Stmt := topS 26
abbrev s_trace_fault : Stmt := topS 29
abbrev s_check_trace : Stmt := topS 30
abbrev s_check_event : Stmt := topS 31
abbrev s_check_number : Stmt := topS 32
abbrev s_thread_of : Stmt := topS 33
abbrev s_name_of : Stmt := topS 34
abbrev s_target_of : Stmt := topS 35
abbrev s_events_by : Stmt := topS 36
abbrev s_accesses_by : Stmt := topS 37
abbrev s_fork_by : Stmt := topS 38
abbrev s_previous_by : Stmt := topS 39
abbrev s_write_by : Stmt := topS 40
abbrev s_end_by : Stmt := topS 41
abbrev s_in_conflict : Stmt := topS 42
abbrev s_conflicts_by : Stmt := topS 43
abbrev s_beginning : Stmt := topS 44
abbrev s_join_by : Stmt := topS 46
abbrev s_needs_by : Stmt := topS 47
abbrev s_are_blocking : Stmt := topS 48
abbrev s_derivation_in : Stmt := topS 55
abbrev s_derivation_by : Stmt := topS 56
abbrev s_given_by : Stmt := topS 58
abbrev s_reason_by : Stmt := topS 59
abbrev s_race_by : Stmt := topS 60
abbrev s_races_by : Stmt := topS 61
abbrev s_check_two : Stmt := topS 62
abbrev s_is_race : Stmt := topS 63
abbrev s_races_of : Stmt := topS 64
abbrev s_just_before : Stmt := topS 66
abbrev s_pasts_by : Stmt := topS 67
abbrev s_unordered_by : Stmt := topS 68
abbrev s_unordered_pairs : Stmt := topS 69
abbrev s__law_pot : Stmt := topS 71
abbrev s__law_draw : Stmt := topS 72
abbrev s__law_turns : Stmt := topS 73
abbrev s__law_same : Stmt := topS 74
abbrev s__law_locks : Stmt := topS 75
abbrev s__law_open : Stmt := topS 76
abbrev s__law_free : Stmt := topS 77
abbrev s__law_event : Stmt := topS 78
abbrev s__law_trace : Stmt := topS 79
abbrev s__law_conflict : Stmt := topS 80
abbrev s_law : Stmt := topS 81
abbrev s_TraceError : Stmt := topS 7
abbrev s_InvalidTrace : Stmt := topS 8
abbrev s_InvalidEvent : Stmt := topS 9
abbrev s_InvalidNumber : Stmt := topS 10
abbrev s_Holds : Stmt := topS 27
abbrev s_Course : Stmt := topS 28
abbrev s_Ties : Stmt := topS 49
abbrev s_Deriver : Stmt := topS 54
def ks_TAKING : List Dt := [.str "acquire", .str "share"]
def ks_OF_LOCKS : List Dt := [.str "acquire", .str "release", .str "share", .str "unshare"]
def ks_ACCESSES : List Dt := [.str "read", .str "write"]
def ks_OF_THREADS : List Dt := [.str "fork", .str "join"]
def ks_NAMES : List Dt := [.str "acquire", .str "release", .str "share", .str "unshare", .str "read", .str "write", .str "fork", .str "join"]
def kd_ENDS (K : PySem.W.Frag) (p : Addr) (z : Str) (v : V) : Prop := p = He.ga K "ENDS" ∧ ((z = ("acquire" : Str) ∧ v = .str "release") ∨ (z = ("share" : Str) ∧ v = .str "unshare"))
structure Txt (w : World) (K : PySem.W.Frag) (mg : Str → Option Value) : Prop where
  fn__wall : ∃ f fd, FnOf K "_wall" "_wall" s__wall f fd ∧ mg "_wall" = some (.ref f)
  fn_is_integer : ∃ f fd, FnOf K "is_integer" "is_integer" s_is_integer f fd ∧ mg "is_integer" = some (.ref f)
  fn_is_from : ∃ f fd, FnOf K "is_from" "is_from" s_is_from f fd ∧ mg "is_from" = some (.ref f)
  fn_is_index : ∃ f fd, FnOf K "is_index" "is_index" s_is_index f fd ∧ mg "is_index" = some (.ref f)
  fn_is_tuple_of : ∃ f fd, FnOf K "is_tuple_of" "is_tuple_of" s_is_tuple_of f fd ∧ mg "is_tuple_of" = some (.ref f)
  fn_is_event : ∃ f fd, FnOf K "is_event" "is_event" s_is_event f fd ∧ mg "is_event" = some (.ref f)
  fn_trace_fault : ∃ f fd, FnOf K "trace_fault" "trace_fault" s_trace_fault f fd ∧ mg "trace_fault" = some (.ref f)
  fn_check_trace : ∃ f fd, FnOf K "check_trace" "check_trace" s_check_trace f fd ∧ mg "check_trace" = some (.ref f)
  fn_check_event : ∃ f fd, FnOf K "check_event" "check_event" s_check_event f fd ∧ mg "check_event" = some (.ref f)
  fn_check_number : ∃ f fd, FnOf K "check_number" "check_number" s_check_number f fd ∧ mg "check_number" = some (.ref f)
  fn_thread_of : ∃ f fd, FnOf K "thread_of" "thread_of" s_thread_of f fd ∧ mg "thread_of" = some (.ref f)
  fn_name_of : ∃ f fd, FnOf K "name_of" "name_of" s_name_of f fd ∧ mg "name_of" = some (.ref f)
  fn_target_of : ∃ f fd, FnOf K "target_of" "target_of" s_target_of f fd ∧ mg "target_of" = some (.ref f)
  fn_events_by : ∃ f fd, FnOf K "events_by" "events_by" s_events_by f fd ∧ mg "events_by" = some (.ref f)
  fn_accesses_by : ∃ f fd, FnOf K "accesses_by" "accesses_by" s_accesses_by f fd ∧ mg "accesses_by" = some (.ref f)
  fn_fork_by : ∃ f fd, FnOf K "fork_by" "fork_by" s_fork_by f fd ∧ mg "fork_by" = some (.ref f)
  fn_previous_by : ∃ f fd, FnOf K "previous_by" "previous_by" s_previous_by f fd ∧ mg "previous_by" = some (.ref f)
  fn_write_by : ∃ f fd, FnOf K "write_by" "write_by" s_write_by f fd ∧ mg "write_by" = some (.ref f)
  fn_end_by : ∃ f fd, FnOf K "end_by" "end_by" s_end_by f fd ∧ mg "end_by" = some (.ref f)
  fn_in_conflict : ∃ f fd, FnOf K "in_conflict" "in_conflict" s_in_conflict f fd ∧ mg "in_conflict" = some (.ref f)
  fn_conflicts_by : ∃ f fd, FnOf K "conflicts_by" "conflicts_by" s_conflicts_by f fd ∧ mg "conflicts_by" = some (.ref f)
  fn_beginning : ∃ f fd, FnOf K "beginning" "beginning" s_beginning f fd ∧ mg "beginning" = some (.ref f)
  fn_join_by : ∃ f fd, FnOf K "join_by" "join_by" s_join_by f fd ∧ mg "join_by" = some (.ref f)
  fn_needs_by : ∃ f fd, FnOf K "needs_by" "needs_by" s_needs_by f fd ∧ mg "needs_by" = some (.ref f)
  fn_are_blocking : ∃ f fd, FnOf K "are_blocking" "are_blocking" s_are_blocking f fd ∧ mg "are_blocking" = some (.ref f)
  fn_derivation_in : ∃ f fd, FnOf K "derivation_in" "derivation_in" s_derivation_in f fd ∧ mg "derivation_in" = some (.ref f)
  fn_derivation_by : ∃ f fd, FnOf K "derivation_by" "derivation_by" s_derivation_by f fd ∧ mg "derivation_by" = some (.ref f)
  fn_given_by : ∃ f fd, FnOf K "given_by" "given_by" s_given_by f fd ∧ mg "given_by" = some (.ref f)
  fn_reason_by : ∃ f fd, FnOf K "reason_by" "reason_by" s_reason_by f fd ∧ mg "reason_by" = some (.ref f)
  fn_race_by : ∃ f fd, FnOf K "race_by" "race_by" s_race_by f fd ∧ mg "race_by" = some (.ref f)
  fn_races_by : ∃ f fd, FnOf K "races_by" "races_by" s_races_by f fd ∧ mg "races_by" = some (.ref f)
  fn_check_two : ∃ f fd, FnOf K "check_two" "check_two" s_check_two f fd ∧ mg "check_two" = some (.ref f)
  fn_is_race : ∃ f fd, FnOf K "is_race" "is_race" s_is_race f fd ∧ mg "is_race" = some (.ref f)
  fn_races_of : ∃ f fd, FnOf K "races_of" "races_of" s_races_of f fd ∧ mg "races_of" = some (.ref f)
  fn_just_before : ∃ f fd, FnOf K "just_before" "just_before" s_just_before f fd ∧ mg "just_before" = some (.ref f)
  fn_pasts_by : ∃ f fd, FnOf K "pasts_by" "pasts_by" s_pasts_by f fd ∧ mg "pasts_by" = some (.ref f)
  fn_unordered_by : ∃ f fd, FnOf K "unordered_by" "unordered_by" s_unordered_by f fd ∧ mg "unordered_by" = some (.ref f)
  fn_unordered_pairs : ∃ f fd, FnOf K "unordered_pairs" "unordered_pairs" s_unordered_pairs f fd ∧ mg "unordered_pairs" = some (.ref f)
  fn__law_pot : ∃ f fd, FnOf K "_law_pot" "_law_pot" s__law_pot f fd ∧ mg "_law_pot" = some (.ref f)
  fn__law_draw : ∃ f fd, FnOf K "_law_draw" "_law_draw" s__law_draw f fd ∧ mg "_law_draw" = some (.ref f)
  fn__law_turns : ∃ f fd, FnOf K "_law_turns" "_law_turns" s__law_turns f fd ∧ mg "_law_turns" = some (.ref f)
  fn__law_same : ∃ f fd, FnOf K "_law_same" "_law_same" s__law_same f fd ∧ mg "_law_same" = some (.ref f)
  fn__law_locks : ∃ f fd, FnOf K "_law_locks" "_law_locks" s__law_locks f fd ∧ mg "_law_locks" = some (.ref f)
  fn__law_open : ∃ f fd, FnOf K "_law_open" "_law_open" s__law_open f fd ∧ mg "_law_open" = some (.ref f)
  fn__law_free : ∃ f fd, FnOf K "_law_free" "_law_free" s__law_free f fd ∧ mg "_law_free" = some (.ref f)
  fn__law_event : ∃ f fd, FnOf K "_law_event" "_law_event" s__law_event f fd ∧ mg "_law_event" = some (.ref f)
  fn__law_trace : ∃ f fd, FnOf K "_law_trace" "_law_trace" s__law_trace f fd ∧ mg "_law_trace" = some (.ref f)
  fn__law_conflict : ∃ f fd, FnOf K "_law_conflict" "_law_conflict" s__law_conflict f fd ∧ mg "_law_conflict" = some (.ref f)
  fn_law : ∃ f fd, FnOf K "law" "law" s_law f fd ∧ mg "law" = some (.ref f)
  c_ACQUIRE : ∃ t, mg "ACQUIRE" = some (.str "acquire" t)
  c_RELEASE : ∃ t, mg "RELEASE" = some (.str "release" t)
  c_SHARE : ∃ t, mg "SHARE" = some (.str "share" t)
  c_UNSHARE : ∃ t, mg "UNSHARE" = some (.str "unshare" t)
  c_READ : ∃ t, mg "READ" = some (.str "read" t)
  c_WRITE : ∃ t, mg "WRITE" = some (.str "write" t)
  c_FORK : ∃ t, mg "FORK" = some (.str "fork" t)
  c_JOIN : ∃ t, mg "JOIN" = some (.str "join" t)
  c_TAKING : mg "TAKING" = some (.ref (He.ga K "TAKING"))
  c_OF_LOCKS : mg "OF_LOCKS" = some (.ref (He.ga K "OF_LOCKS"))
  c_ACCESSES : mg "ACCESSES" = some (.ref (He.ga K "ACCESSES"))
  c_OF_THREADS : mg "OF_THREADS" = some (.ref (He.ga K "OF_THREADS"))
  c_NAMES : mg "NAMES" = some (.ref (He.ga K "NAMES"))
  c_ENDS : mg "ENDS" = some (.ref (He.ga K "ENDS"))
  cl_Holds : Cls K (He.ga K "Holds")
  c_Holds : mg "Holds" = some (.ref (He.ga K "Holds"))
  mk_Holds : Mk K (He.ga K "Holds") (He.ma K (He.ga K "Holds") "__init__")
  in_Holds : ∃ fd, FnOf K "__init__" "Holds.__init__" (inClass s_Holds 0) (He.ma K (He.ga K "Holds") "__init__") fd
  mt_Holds_sharing : ∃ f fd, Meth K (He.ga K "Holds") "sharing" f ∧ FnOf K "sharing" "Holds.sharing" (inClass s_Holds 1) f fd
  mt_Holds_can : ∃ f fd, Meth K (He.ga K "Holds") "can" f ∧ FnOf K "can" "Holds.can" (inClass s_Holds 2) f fd
  mt_Holds_do : ∃ f fd, Meth K (He.ga K "Holds") "do" f ∧ FnOf K "do" "Holds.do" (inClass s_Holds 3) f fd
  mt_Holds_held_by : ∃ f fd, Meth K (He.ga K "Holds") "held_by" f ∧ FnOf K "held_by" "Holds.held_by" (inClass s_Holds 4) f fd
  na_Holds_alone : NoAttr K (He.ga K "Holds") "alone"
  na_Holds_shared : NoAttr K (He.ga K "Holds") "shared"
  cl_Course : Cls K (He.ga K "Course")
  c_Course : mg "Course" = some (.ref (He.ga K "Course"))
  mk_Course : Mk K (He.ga K "Course") (He.ma K (He.ga K "Course") "__init__")
  in_Course : ∃ fd, FnOf K "__init__" "Course.__init__" (inClass s_Course 0) (He.ma K (He.ga K "Course") "__init__") fd
  mt_Course_can : ∃ f fd, Meth K (He.ga K "Course") "can" f ∧ FnOf K "can" "Course.can" (inClass s_Course 1) f fd
  mt_Course_do : ∃ f fd, Meth K (He.ga K "Course") "do" f ∧ FnOf K "do" "Course.do" (inClass s_Course 2) f fd
  na_Course_holds : NoAttr K (He.ga K "Course") "holds"
  na_Course_begun : NoAttr K (He.ga K "Course") "begun"
  na_Course_forked : NoAttr K (He.ga K "Course") "forked"
  na_Course_joined : NoAttr K (He.ga K "Course") "joined"
  cl_Ties : Cls K (He.ga K "Ties")
  c_Ties : mg "Ties" = some (.ref (He.ga K "Ties"))
  mk_Ties : Mk K (He.ga K "Ties") (He.ma K (He.ga K "Ties") "__init__")
  in_Ties : ∃ fd, FnOf K "__init__" "Ties.__init__" (inClass s_Ties 0) (He.ma K (He.ga K "Ties") "__init__") fd
  mt_Ties_ahead_of : ∃ f fd, Meth K (He.ga K "Ties") "ahead_of" f ∧ FnOf K "ahead_of" "Ties.ahead_of" (inClass s_Ties 1) f fd
  mt_Ties_end_wanted : ∃ f fd, Meth K (He.ga K "Ties") "end_wanted" f ∧ FnOf K "end_wanted" "Ties.end_wanted" (inClass s_Ties 2) f fd
  na_Ties_base : NoAttr K (He.ga K "Ties") "base"
  na_Ties_needs : NoAttr K (He.ga K "Ties") "needs"
  na_Ties_ends : NoAttr K (He.ga K "Ties") "ends"
  c_GIVEN : ∃ t, mg "GIVEN" = some (.str "given" t)
  c_NEED : ∃ t, mg "NEED" = some (.str "need" t)
  c_END : ∃ t, mg "END" = some (.str "end" t)
  cl_Deriver : Cls K (He.ga K "Deriver")
  c_Deriver : mg "Deriver" = some (.ref (He.ga K "Deriver"))
  mk_Deriver : Mk K (He.ga K "Deriver") (He.ma K (He.ga K "Deriver") "__init__")
  in_Deriver : ∃ fd, FnOf K "__init__" "Deriver.__init__" (inClass s_Deriver 0) (He.ma K (He.ga K "Deriver") "__init__") fd
  mt_Deriver_settle : ∃ f fd, Meth K (He.ga K "Deriver") "settle" f ∧ FnOf K "settle" "Deriver.settle" (inClass s_Deriver 1) f fd
  mt_Deriver_add : ∃ f fd, Meth K (He.ga K "Deriver") "add" f ∧ FnOf K "add" "Deriver.add" (inClass s_Deriver 2) f fd
  mt_Deriver_follow : ∃ f fd, Meth K (He.ga K "Deriver") "follow" f ∧ FnOf K "follow" "Deriver.follow" (inClass s_Deriver 3) f fd
  mt_Deriver_closure : ∃ f fd, Meth K (He.ga K "Deriver") "closure" f ∧ FnOf K "closure" "Deriver.closure" (inClass s_Deriver 4) f fd
  mt_Deriver_derivation : ∃ f fd, Meth K (He.ga K "Deriver") "derivation" f ∧ FnOf K "derivation" "Deriver.derivation" (inClass s_Deriver 5) f fd
  na_Deriver_ties : NoAttr K (He.ga K "Deriver") "ties"
  na_Deriver_steps : NoAttr K (He.ga K "Deriver") "steps"
  na_Deriver_waiting : NoAttr K (He.ga K "Deriver") "waiting"
  b_len : mg "len" = none
  b_range : mg "range" = none
  b_enumerate : mg "enumerate" = none
  b_sorted : mg "sorted" = none
  b_int : mg "int" = none
  b_str : mg "str" = none
  b_bool : mg "bool" = none
  b_list : mg "list" = none
  b_tuple : mg "tuple" = none
  b_isinstance : mg "isinstance" = none
  b_abs : mg "abs" = none
  b_max : mg "max" = none
  b_min : mg "min" = none
  b_all : mg "all" = none
  k_TAKING : ∃ vs, KTup K (He.ga K "TAKING") vs ∧ ∀ H, HasL K H ks_TAKING vs
  k_OF_LOCKS : ∃ vs, KTup K (He.ga K "OF_LOCKS") vs ∧ ∀ H, HasL K H ks_OF_LOCKS vs
  k_ACCESSES : ∃ vs, KTup K (He.ga K "ACCESSES") vs ∧ ∀ H, HasL K H ks_ACCESSES vs
  k_OF_THREADS : ∃ vs, KTup K (He.ga K "OF_THREADS") vs ∧ ∀ H, HasL K H ks_OF_THREADS vs
  k_NAMES : ∃ vs, KTup K (He.ga K "NAMES") vs ∧ ∀ H, HasL K H ks_NAMES vs
  k_ENDS : ∀ p z v, kd_ENDS K p z v → KDct K w p z v
end DL
namespace DL
open PySem PySem.Spec L2
theorem sc__law_turns : FnScope ["script", "least", "most"] ["script", "least", "most"] (defScope s__law_turns) := ⟨rfl, rfl, rfl, by decide +kernel, rfl, by decide +kernel, by decide +kernel⟩
def turnsN (d : Dt) (lo hi : Int) : Nat := (max lo (min ((lenD d : Nat) : Int) hi)).toNat
theorem turnsN_le {d : Dt} {lo hi : Int} (h1 : lo ≤ 1000) (h2 : hi ≤ 1000) : turnsN d lo hi ≤ 1000 := by
  unfold turnsN
  omega
abbrev sp__law_turns (K : PySem.W.Frag) : Sp := spD K (fun x : Dt × Int × Int => [x.1, .int x.2.1, .int x.2.2]) (fun x => ∃ ns : List Int, x.1 = .kl (ns.map .int) ∧ ns.length ≤ 100000 ∧ 0 ≤ x.2.1 ∧ x.2.1 ≤ 1000 ∧ 0 ≤ x.2.2 ∧ x.2.2 ≤ 1000) (fun x => .lst ((List.range (turnsN x.1 x.2.1 x.2.2)).map natD))
def t__law_turns (K : PySem.W.Frag) : TS := (tRet (tLstRg (tRg1 (tCB rMax2 (tCons (tVar 1) (tCons (tCB rMin2 (tCons (tCB (rLen K) (tCons (tVar 0) tNil)) (tCons (tVar 2) tNil))) tNil))))))
theorem run__law_turns {K : PySem.W.Frag} (x : Dt × Int × Int) (hx : ∃ ns : List Int, x.1 = .kl (ns.map .int) ∧ ns.length ≤ 100000 ∧ 0 ≤ x.2.1 ∧ x.2.1 ≤ 1000 ∧ 0 ≤ x.2.2 ∧ x.2.2 ≤ 1000) : Runs K (t__law_turns K) [.dat x.1, .dat (.int x.2.1), .dat (.int x.2.2)] { nx := fun _ => (Dt.lst ((List.range (turnsN x.1 x.2.1 x.2.2)).map natD)) = .non, rt := fun e _ => e = .lst ((List.range (turnsN x.1 x.2.1 x.2.2)).map natD) } := by
  obtain ⟨d, lo, hi⟩ := x
  obtain ⟨ns, e, h1, h2, h3, h4, h5⟩ := hx
  have e : d = .kl (ns.map .int) := e
  subst e
  have h2 : 0 ≤ lo := h2
  have h3 : lo ≤ 1000 := h3
  have h4 : 0 ≤ hi := h4
  have h5 : hi ≤ 1000 := h5
  have k1 := turnsN_le (d := .kl (ns.map .int)) h3 h5
  have k2 : (max lo (min (((ns.map Dt.int).length : Nat) : Int) hi)).toNat = turnsN (.kl (ns.map .int)) lo hi := rfl
  refine r_ret ((ev_lstRg1 (n := max lo (min (((ns.map Dt.int).length : Nat) : Int) hi)) (Ev.is (ev_cb (ea_cons (ev_var rfl) (ea_cons (ev_cb (ea_cons (ev_cb1 (ev_var rfl).rd rc_lenK) (ea_cons (ev_var rfl) ea_nil)) rc_min2) ea_nil)) rc_max2) ?_) (.of_le (by omega) (by omega) (by omega) (by omega))).is ?_) rfl
  · refine congrArg Dt.int ?_
    simp only [Int.max_def, Int.min_def]
    split <;> split <;> (try split) <;> (try split) <;> omega
  · rw [k2, nums_range0]
theorem ok__law_turns {P : Program} {w : World} {K : PySem.W.Frag} {mg : Str → Option Value} {base : Heap} (T : Txt w K mg) : Def P w K mg base "_law_turns" ["script", "least", "most"] 1 (sp__law_turns K) := by
  obtain ⟨f, fd, F, gl⟩ := T.fn__law_turns
  exact ⟨f, fd, gl, F.kp, FunD.bindsN F (fun _ _ _ _ _ _ us hl => match us, hl with | [_, _, _], _ => rfl), fn_f F sc__law_turns (fun _ => rfl) (t__law_turns K) (fun cdv A outer s H E hr => (pss_one (ps_ret (pe_listRg rfl (by rfl) T.b_list (prg_1 (by rfl) T.b_range (pe_callB (call_max2 rfl) (by rfl) T.b_max (by decide +kernel) (pa_cons (pv 1) (pa_cons (pe_callB (call_min2 rfl) (by rfl) T.b_min (by decide +kernel) (pa_cons (pe_callB call_len (by rfl) T.b_len (by decide +kernel) (pa_cons (pv 0) pa_nil)) (pa_cons (pv 2) pa_nil))) pa_nil)))))))) (by decide) (fun x hx => run__law_turns x hx)⟩
end DL
namespace DL
open PySem PySem.Spec L2
theorem sc__law_pot : FnScope ["script", "at", "cell"] ["script", "at"] (defScope s__law_pot) := ⟨rfl, rfl, rfl, by decide +kernel, rfl, by decide +kernel, by decide +kernel⟩
/-- the pot: three whole numbers -/
def potK (d : Dt) : Prop := ∃ c f n : Int, d = .lst [.int c, .int f, .int n]
abbrev sp__law_pot (K : PySem.W.Frag) : Sp := spGN K (fun x : List Int × Nat => [.kl (x.1.map .int), natD x.2]) (fun x => x.1.length ≤ 100000 ∧ x.2 ≤ 1000) (fun _ => potK)
def t__law_pot (K : PySem.W.Frag) : TS := (tSeq (tAsg (tIf (tTest (tOp (rI0 fun i j => .bl (decide (i < j))) (tVar 1) (tCB (rLen K) (tCons (tVar 0) tNil)))) (tOp (rIx K) (tVar 0) (tVar 1)) (tOp (rAddA K) (tOp rMulA (tC (.int 7)) (tVar 1)) (tC (.int 3)))) (gName 2)) (tSeq (tAsg (tOp (rI (fun _ j => 0 < j) fun i j => .int (i % j)) (tCB rInt1 (tCons (tCB rAbs1 (tCons (tVar 2) tNil)) tNil)) (tOp rMulA (tOp rMulA (tOp rMulA (tOp (rI CPow fun i j => .int (i ^ j.toNat)) (tC (.int 10)) (tC (.int 60))) (tOp (rI CPow fun i j => .int (i ^ j.toNat)) (tC (.int 10)) (tC (.int 60)))) (tOp (rI CPow fun i j => .int (i ^ j.toNat)) (tC (.int 10)) (tC (.int 60)))) (tOp (rI CPow fun i j => .int (i ^ j.toNat)) (tC (.int 10)) (tC (.int 60))))) (gName 2)) (tRet (tLst (tCons (tVar 2) (tCons (tCB rInt1 (tCons (tOp (rI0 fun i j => .bl (decide (j ≤ i))) (tVar 2) (tOp (rI CPow fun i j => .int (i ^ j.toNat)) (tC (.int 10)) (tC (.int 18)))) tNil)) (tCons (tOp rMulA (tC (.int 3)) (tVar 1)) tNil)))))))
theorem run__law_pot {K : PySem.W.Frag} (x : List Int × Nat) (hx : x.1.length ≤ 100000 ∧ x.2 ≤ 1000) : RunsN K (t__law_pot K) [.dat (.kl (x.1.map .int)), .dat (natD x.2), .un] potK := by
  obtain ⟨ns, a⟩ := x
  refine n_seq (r_asg (d := .int (if a < ns.length then ns.getD a 0 else 7 * (a : Int) + 3)) (ev_if (b := decide ((a : Int) < (ns.length : Int))) (et_test ((ev_op (ev_var rfl) ((ev_cb1 (ev_var rfl).rd rc_lenK).is (by rw [List.length_map])) rv_B0))) (fun e => ?_) fun e => ?_) ?_)
  · have h : a < ns.length := by have := of_decide_eq_true e; omega
    refine ev_op (ev_var rfl) (ev_var rfl) (rv_ixK ((atI_nat (by rw [List.length_map]; exact h)).trans ?_))
    rw [if_pos h, List.getElem?_map, List.getElem?_eq_getElem h, List.getD_eq_getElem?_getD, List.getElem?_eq_getElem h]
    rfl
  · have h : ¬ a < ns.length := by have := of_decide_eq_false e; omega
    rw [if_neg h]
    exact ev_op (ev_op ev_int (ev_var rfl) (rv_mulA (.inl ⟨by decide, by decide⟩))) ev_int rv_addI
  generalize (if a < ns.length then ns.getD a 0 else 7 * (a : Int) + 3) = c
  have p10 : Ev K (tOp (rI CPow fun i j => .int (i ^ j.toNat)) (tC (.int 10)) (tC (.int 60))) ([.dat (.kl (ns.map .int)), .dat (natD a), .dat (.int c)]) (.int (10 ^ 60)) := ev_op ev_int ev_int (rv_pow ⟨by decide, by decide, by decide⟩)
  have big : Ev K (tOp rMulA (tOp rMulA (tOp rMulA (tOp (rI CPow fun i j => .int (i ^ j.toNat)) (tC (.int 10)) (tC (.int 60))) (tOp (rI CPow fun i j => .int (i ^ j.toNat)) (tC (.int 10)) (tC (.int 60)))) (tOp (rI CPow fun i j => .int (i ^ j.toNat)) (tC (.int 10)) (tC (.int 60)))) (tOp (rI CPow fun i j => .int (i ^ j.toNat)) (tC (.int 10)) (tC (.int 60)))) [.dat (.kl (ns.map .int)), .dat (natD a), .dat (.int c)] (.int (10 ^ 60 * 10 ^ 60 * 10 ^ 60 * 10 ^ 60)) :=
    ev_op (ev_op (ev_op p10 p10 (rv_mulB (by unfold CMulW; decide +kernel))) p10 (rv_mulB (by unfold CMulW; decide +kernel))) p10 (rv_mulB (by unfold CMulW; decide +kernel))
  refine n_seq (r_asg (ev_op (ev_cb1 (ev_cb1 (ev_var rfl).rd rc_abs).rd rc_int) big (rv_mod (by decide +kernel))) ?_)
  exact n_ret (en_lst (ea_cons (ev_var rfl) (ea_cons (ev_cb1 (ev_op (ev_var rfl) (ev_op ev_int ev_int (rv_pow ⟨by decide, by decide, by decide⟩)) rv_B0).rd rc_intB) (ea_cons (ev_op ev_int (ev_var rfl) (rv_mulA (.inl ⟨by decide, by decide⟩))) ea_nil))) (show 3 ≤ sizeLine by decide)) ⟨_, _, _, rfl⟩
theorem ok__law_pot {P : Program} {w : World} {K : PySem.W.Frag} {mg : Str → Option Value} {base : Heap} (T : Txt w K mg) : Def P w K mg base "_law_pot" ["script", "at"] 1 (sp__law_pot K) := by
  obtain ⟨f, fd, F, gl⟩ := T.fn__law_pot
  exact ⟨f, fd, gl, F.kp, FunD.bindsN F (fun _ _ _ _ _ _ us hl => match us, hl with | [_, _], _ => rfl), fn_n F sc__law_pot (fun _ => rfl) (t__law_pot K) (fun cdv A outer s H E hr => (pss_cons (ps_set (i := 2) sc__law_pot.nd rfl (by first | exact Or.inl rfl | exact Or.inr rfl) (pe_ifExp (pt_cmpR op_lt (pv 1) (pe_callB call_len (by rfl) T.b_len (by decide +kernel) (pa_cons (pv 0) pa_nil)) (nomark _)) (pe_ix ix_seq (pv 0) (pv 1) (fun _ _ => rfl)) (pe_op op_addA (pe_op op_mulA pe_int (pv 1)) pe_int))) (pss_cons (ps_set (i := 2) sc__law_pot.nd rfl (by first | exact Or.inl rfl | exact Or.inr rfl) (pe_op op_mod (pe_callTy call_int1 (by rfl) T.b_int (by decide +kernel) (pa_cons (pe_callB call_abs (by rfl) T.b_abs (by decide +kernel) (pa_cons (pv 2) pa_nil)) pa_nil)) (pe_op op_mulA (pe_op op_mulA (pe_op op_mulA (pe_op op_pow pe_int pe_int) (pe_op op_pow pe_int pe_int)) (pe_op op_pow pe_int pe_int)) (pe_op op_pow pe_int pe_int)))) (pss_one (ps_ret (pe_lst (pa_cons (pv 2) (pa_cons (pe_callTy call_int1 (by rfl) T.b_int (by decide +kernel) (pa_cons (pe_cmpR op_ge (pv 2) (pe_op op_pow pe_int pe_int) (nomark _)) pa_nil)) (pa_cons (pe_op op_mulA pe_int (pv 1)) pa_nil))))))))) (by decide) (fun x hx Y H σ D S E => run__law_pot x hx Y H σ H D S E)⟩
end DL
namespace DL
open PySem PySem.Spec L2
theorem sc__law_draw : FnScope ["pot", "many", "found", "mixed"] ["pot", "many"] (defScope s__law_draw) := ⟨rfl, rfl, rfl, by decide +kernel, rfl, by decide +kernel, by decide +kernel⟩
abbrev sp__law_draw (K : PySem.W.Frag) : Sp := spPG K potK (fun x : Int => [.int x]) (fun x => 0 < x ∧ x < 1073741824) (fun x d => ∃ r : Int, d = .int r ∧ 0 ≤ r ∧ r < x)
def t__law_draw (K : PySem.W.Frag) : TS := (tSeq (tAsg (tOp (rAddA K) (tOp (rIx K) (tVar 0) (tC (.int 2))) (tC (.int 1))) (gSub (tVar 0) (tC (.int 2)) rSetL)) (tSeq (tIfS (tAnd (tTest (tOp (rEqA K) (tOp (rIx K) (tVar 0) (tC (.int 1))) (tC (.int 1)))) (tTest (tOp (rI0 fun i j => .bl (decide (j < i))) (tOp (rIx K) (tVar 0) (tC (.int 0))) (tC (.int 0))))) (tSeq (tAsg (tOp (rI (fun _ j => 0 < j) fun i j => .int (i % j)) (tCB rInt1 (tCons (tOp (rIx K) (tVar 0) (tC (.int 0))) tNil)) (tVar 1)) (gName 2)) (tSeq (tAsg (tOp (rI CDiv fun i j => .int (i / j)) (tOp (rIx K) (tVar 0) (tC (.int 0))) (tVar 1)) (gSub (tVar 0) (tC (.int 0)) rSetL)) (tRet (tVar 2)))) tNext) (tSeq (tAsg (tOp (rI (fun _ j => 0 < j) fun i j => .int (i % j)) (tCB rInt1 (tCons (tOp rMulA (tOp (rAddA K) (tOp (rAddA K) (tOp (rIx K) (tVar 0) (tC (.int 0))) (tOp rMulA (tC (.int 977)) (tOp (rIx K) (tVar 0) (tC (.int 2))))) (tC (.int 1))) (tC (.int 48271))) tNil)) (tC (.int 2147483647))) (gName 3)) (tSeq (tAsg (tOp (rI (fun _ j => 0 < j) fun i j => .int (i % j)) (tCB rInt1 (tCons (tOp rMulA (tVar 3) (tVar 3)) tNil)) (tC (.int 2147483629))) (gName 3)) (tSeq (tAsg (tOp (rI (fun _ j => 0 < j) fun i j => .int (i % j)) (tCB rInt1 (tCons (tOp rMulA (tOp (rAddA K) (tVar 3) (tOp rMulA (tC (.int 40692)) (tOp (rIx K) (tVar 0) (tC (.int 2))))) (tC (.int 69621))) tNil)) (tC (.int 2147483563))) (gName 3)) (tRet (tOp (rI (fun _ j => 0 < j) fun i j => .int (i % j)) (tCB rInt1 (tCons (tOp (rI CDiv fun i j => .int (i / j)) (tVar 3) (tC (.int 8))) tNil)) (tVar 1))))))))
theorem run__law_draw {K : PySem.W.Frag} (x : Int) (a : Addr) (d0 : Dt) (hx : 0 < x ∧ x < 1073741824) (hk : potK d0) : Runs K (t__law_draw K) [.own (some a) d0, .dat (.int x), .un, .un]
    { nx := fun ρ' => (∃ r : Int, Dt.non = .int r ∧ 0 ≤ r ∧ r < x) ∧ ∃ d1, potK d1 ∧ ρ'[0]? = some (.own (some a) d1), rt := fun d ρ' => (∃ r : Int, d = .int r ∧ 0 ≤ r ∧ r < x) ∧ ∃ d1, potK d1 ∧ ρ'[0]? = some (.own (some a) d1) } := by
  obtain ⟨c, f, n, rfl⟩ := hk
  have g0 : ∀ (m : Int) (ρ : List Sl), ρ[0]? = some (.own (some a) (.lst [.int c, .int f, .int m])) → Ev K (tOp (rIx K) (tVar 0) (tC (.int 0))) ρ (.int c) := fun m ρ h => ev_opR (er_var h) ev_int.rd (rv_ixL rfl)
  have g1 : ∀ (m : Int) (ρ : List Sl), ρ[0]? = some (.own (some a) (.lst [.int c, .int f, .int m])) → Ev K (tOp (rIx K) (tVar 0) (tC (.int 1))) ρ (.int f) := fun m ρ h => ev_opR (er_var h) ev_int.rd (rv_ixL rfl)
  have g2 : ∀ (m : Int) (ρ : List Sl), ρ[0]? = some (.own (some a) (.lst [.int c, .int f, .int m])) → Ev K (tOp (rIx K) (tVar 0) (tC (.int 2))) ρ (.int m) := fun m ρ h => ev_opR (er_var h) ev_int.rd (rv_ixL rfl)
  refine r_seq (r_setL (k := 2) rfl (ev_op (g2 n _ rfl) ev_int rv_addI) ev_int rfl ?_)
  refine q_when (b := decide (f = 1) && decide (0 < c)) (et_and (et_test (ev_op (g1 (n + 1) _ rfl) ev_int rv_eqAI)) fun _ => et_test (ev_op (g0 (n + 1) _ rfl) ev_int rv_B0)) (fun e => ?_) fun e => ?_
  · refine q_set (ev_op (ev_cb1 (g0 (n + 1) _ rfl).rd rc_int) (ev_var rfl) (rv_mod hx.1)) (r_seq (r_setL (k := 0) rfl (ev_op (g0 (n + 1) _ rfl) (ev_var rfl) (rv_fdiv hx)) ev_int rfl (r_ret (ev_var rfl) ?_)))
    exact ⟨⟨_, rfl, Int.emod_nonneg _ (by omega), Int.emod_lt_of_pos _ hx.1⟩, _, ⟨_, _, _, rfl⟩, rfl⟩
  · have h1 : ∀ z : Int, CMul z 48271 := fun z => .inr ⟨by decide, by decide⟩
    have h2 : ∀ z : Int, CMul z 69621 := fun z => .inr ⟨by decide, by decide⟩
    have h3 : ∀ z : Int, CMul 977 z := fun z => .inl ⟨by decide, by decide⟩
    have h4 : ∀ z : Int, CMul 40692 z := fun z => .inl ⟨by decide, by decide⟩
    have h5 : ∀ z : Int, CMul (z % 2147483647) (z % 2147483647) := fun z => .inl ⟨by have := Int.emod_nonneg z (b := 2147483647) (by decide); omega, by have := Int.emod_lt_of_pos z (b := 2147483647) (by decide); omega⟩
    refine q_set (ev_op (ev_cb1 (ev_op (ev_op (ev_op (g0 (n + 1) _ rfl) (ev_op ev_int (g2 (n + 1) _ rfl) (rv_mulA (h3 _))) rv_addI) ev_int rv_addI) ev_int (rv_mulA (h1 _))).rd rc_int) ev_int (rv_mod (by decide))) ?_
    refine q_set (ev_op (ev_cb1 (ev_op (ev_var rfl) (ev_var rfl) (rv_mulA (h5 _))).rd rc_int) ev_int (rv_mod (by decide))) ?_
    refine q_set (ev_op (ev_cb1 (ev_op (ev_op (ev_var rfl) (ev_op ev_int (g2 (n + 1) _ rfl) (rv_mulA (h4 _))) rv_addI) ev_int (rv_mulA (h2 _))).rd rc_int) ev_int (rv_mod (by decide))) ?_
    refine r_ret (ev_op (ev_cb1 (ev_op (ev_var rfl) ev_int (rv_fdiv ⟨by decide, by decide⟩)).rd rc_int) (ev_var rfl) (rv_mod hx.1)) ?_
    exact ⟨⟨_, rfl, Int.emod_nonneg _ (by omega), Int.emod_lt_of_pos _ hx.1⟩, _, ⟨_, _, _, rfl⟩, rfl⟩
theorem ok__law_draw {P : Program} {w : World} {K : PySem.W.Frag} {mg : Str → Option Value} {base : Heap} (T : Txt w K mg) : Def P w K mg base "_law_draw" ["pot", "many"] 2 (sp__law_draw K) := by
  obtain ⟨f, fd, F, gl⟩ := T.fn__law_draw
  exact ⟨f, fd, gl, F.kp, FunD.bindsN F (fun _ _ _ _ _ _ us hl => match us, hl with | [_, _], _ => rfl), fn_pg F sc__law_draw (fun _ => rfl) (t__law_draw K) (fun cdv A outer s H E hr => (pss_cons (ps_asg (pe_op op_addA (pe_ix ix_seq (pv 0) pe_int (fun _ _ => rfl)) pe_int) (pg_sub (pv 0) pe_int set_list)) (pss_cons (ps_if (PW.pt (pw_and (pt_cmpR (op_eqA (hu65 hr)) (pe_ix ix_seq (pv 0) pe_int (fun _ _ => rfl)) pe_int (nomark _)) (pw_and1 (pt_cmpR op_gt (pe_ix ix_seq (pv 0) pe_int (fun _ _ => rfl)) pe_int (nomark _))))) (pss_cons (ps_set (i := 2) sc__law_draw.nd rfl (by first | exact Or.inl rfl | exact Or.inr rfl) (pe_op op_mod (pe_callTy call_int1 (by rfl) T.b_int (by decide +kernel) (pa_cons (pe_ix ix_seq (pv 0) pe_int (fun _ _ => rfl)) pa_nil)) (pv 1))) (pss_cons (ps_asg (pe_op op_fdiv (pe_ix ix_seq (pv 0) pe_int (fun _ _ => rfl)) (pv 1)) (pg_sub (pv 0) pe_int set_list)) (pss_one (ps_ret (pv 2))))) pss_nil) (pss_cons (ps_set (i := 3) sc__law_draw.nd rfl (by first | exact Or.inl rfl | exact Or.inr rfl) (pe_op op_mod (pe_callTy call_int1 (by rfl) T.b_int (by decide +kernel) (pa_cons (pe_op op_mulA (pe_op op_addA (pe_op op_addA (pe_ix ix_seq (pv 0) pe_int (fun _ _ => rfl)) (pe_op op_mulA pe_int (pe_ix ix_seq (pv 0) pe_int (fun _ _ => rfl)))) pe_int) pe_int) pa_nil)) pe_int)) (pss_cons (ps_set (i := 3) sc__law_draw.nd rfl (by first | exact Or.inl rfl | exact Or.inr rfl) (pe_op op_mod (pe_callTy call_int1 (by rfl) T.b_int (by decide +kernel) (pa_cons (pe_op op_mulA (pv 3) (pv 3)) pa_nil)) pe_int)) (pss_cons (ps_set (i := 3) sc__law_draw.nd rfl (by first | exact Or.inl rfl | exact Or.inr rfl) (pe_op op_mod (pe_callTy call_int1 (by rfl) T.b_int (by decide +kernel) (pa_cons (pe_op op_mulA (pe_op op_addA (pv 3) (pe_op op_mulA pe_int (pe_ix ix_seq (pv 0) pe_int (fun _ _ => rfl)))) pe_int) pa_nil)) pe_int)) (pss_one (ps_ret (pe_op op_mod (pe_callTy call_int1 (by rfl) T.b_int (by decide +kernel) (pa_cons (pe_op op_fdiv (pv 3) pe_int) pa_nil)) (pv 1)))))))))) (by decide) (fun x a d0 hx hk => run__law_draw x a d0 hx hk)⟩
end DL
namespace DL
open PySem PySem.Spec L2
theorem sc__law_event : FnScope ["pot", "events", "size", "thread", "turn", "held", "name", "lock", "one"] ["pot", "events", "size"] (defScope s__law_event) := ⟨rfl, rfl, rfl, by decide +kernel, rfl, by decide +kernel, by decide +kernel⟩
abbrev sp__law_event (K : PySem.W.Frag) : Sp := spPG K potK (fun x : Tr × Int × Int × Int => [encT x.1, .tup [.int x.2.1, .int x.2.2.1, .int x.2.2.2]]) (fun x => (x.1.length < 100000 ∧ ∀ e ∈ x.1, e.ok) ∧ (0 < x.2.1 ∧ x.2.1 < 1073741824) ∧ (0 < x.2.2.1 ∧ x.2.2.1 < 1073741824) ∧ (0 < x.2.2.2 ∧ x.2.2.2 < 1073741824)) (fun _ d => ∃ e : Evt, d = encE e ∧ e.ok)
def t__law_event (K : PySem.W.Frag) : TS := (tSeq (tAsg (tCall (sp__law_draw K) [] E0 (tCons (tVar 0) (tCons (tOp (rIx K) (tVar 2) (tC (.int 0))) tNil))) (gName 3)) (tSeq (tAsg (tCall (sp__law_draw K) [] E0 (tCons (tVar 0) (tCons (tC (.int 16)) tNil))) (gName 4)) (tSeq (tAsg (tLc (iSeq K (tVar 1)) (gTup K 3 (gCons (gName 8) (gCons (gName 6) (gCons (gName 7) gNil)))) (tAnd (tTest (tOp (rEqA K) (tVar 8) (tVar 3))) (tTest (tOp (rInA K) (tVar 6) (tTup (tCons (tC (.str "acquire")) (tCons (tC (.str "share")) tNil)))))) (tTup (tCons (tVar 6) (tCons (tVar 7) tNil))) [8, 6, 7]) (gName 5)) (tSeq (tIfS (tAnd (tTest (tOp (rI0 fun i j => .bl (decide (i < j))) (tVar 4) (tC (.int 3)))) (tTest (tOp (rNeA K) (tVar 5) (tLst tNil)))) (tSeq (tAsg (tOp (rIx K) (tVar 5) (tUn (rU fun i => .int (-i)) (tC (.int 1)))) (gTup K 2 (gCons (gName 6) (gCons (gName 7) gNil)))) (tRet (tTup (tCons (tVar 3) (tCons (tIf (tTest (tOp (rEqA K) (tVar 6) (tC (.str "acquire")))) (tC (.str "release")) (tC (.str "unshare"))) (tCons (tVar 7) tNil)))))) tNext) (tSeq (tIfS (tTest (tOp (rI0 fun i j => .bl (decide (i < j))) (tVar 4) (tC (.int 9)))) (tRet (tTup (tCons (tVar 3) (tCons (tOp (rIx K) (tLst (tCons (tC (.str "read")) (tCons (tC (.str "write")) tNil))) (tCall (sp__law_draw K) [] E0 (tCons (tVar 0) (tCons (tC (.int 2)) tNil)))) (tCons (tCall (sp__law_draw K) [] E0 (tCons (tVar 0) (tCons (tOp (rIx K) (tVar 2) (tC (.int 2))) tNil))) tNil))))) tNext) (tSeq (tIfS (tTest (tOp (rI0 fun i j => .bl (decide (i < j))) (tVar 4) (tC (.int 13)))) (tRet (tTup (tCons (tVar 3) (tCons (tC (.str "acquire")) (tCons (tCall (sp__law_draw K) [] E0 (tCons (tVar 0) (tCons (tOp (rIx K) (tVar 2) (tC (.int 1))) tNil))) tNil))))) tNext) (tSeq (tIfS (tTest (tOp (rEqA K) (tVar 4) (tC (.int 13)))) (tRet (tTup (tCons (tVar 3) (tCons (tOp (rIx K) (tLst (tCons (tC (.str "share")) (tCons (tC (.str "share")) (tCons (tC (.str "acquire")) tNil)))) (tCall (sp__law_draw K) [] E0 (tCons (tVar 0) (tCons (tC (.int 3)) tNil)))) (tCons (tCall (sp__law_draw K) [] E0 (tCons (tVar 0) (tCons (tOp (rIx K) (tVar 2) (tC (.int 1))) tNil))) tNil))))) tNext) (tRet (tTup (tCons (tVar 3) (tCons (tOp (rIx K) (tLst (tCons (tC (.str "fork")) (tCons (tC (.str "join")) tNil))) (tCB rInt1 (tCons (tAndV (tOp (rEqA K) (tVar 4) (tC (.int 15))) (tOp (rEqA K) (tCall (sp__law_draw K) [] E0 (tCons (tVar 0) (tCons (tC (.int 3)) tNil))) (tC (.int 0)))) tNil))) (tCons (tCall (sp__law_draw K) [] E0 (tCons (tVar 0) (tCons (tOp (rIx K) (tVar 2) (tC (.int 0))) tNil))) tNil))))))))))))
theorem pick2 {m : Int} (h : 0 ≤ m ∧ m < 2) : m = 0 ∨ m = 1 := by omega
theorem pick3 {m : Int} (h : 0 ≤ m ∧ m < 3) : m = 0 ∨ m = 1 ∨ m = 2 := by omega
theorem run__law_event {K : PySem.W.Frag} (x : Tr × Int × Int × Int) (a : Addr) (d0 : Dt) (hx : (x.1.length < 100000 ∧ ∀ e ∈ x.1, e.ok) ∧ (0 < x.2.1 ∧ x.2.1 < 1073741824) ∧ (0 < x.2.2.1 ∧ x.2.2.1 < 1073741824) ∧ (0 < x.2.2.2 ∧ x.2.2.2 < 1073741824)) (hk : potK d0) :
    Runs K (t__law_event K) [.own (some a) d0, .dat (encT x.1), .dat (.tup [.int x.2.1, .int x.2.2.1, .int x.2.2.2]), .un, .un, .un, .un, .un, .un]
    { nx := fun ρ' => (∃ e : Evt, Dt.non = encE e ∧ e.ok) ∧ ∃ d1, potK d1 ∧ ρ'[0]? = some (.own (some a) d1), rt := fun d ρ' => (∃ e : Evt, d = encE e ∧ e.ok) ∧ ∃ d1, potK d1 ∧ ρ'[0]? = some (.own (some a) d1) } := by
  obtain ⟨t, s0, s1, s2⟩ := x
  obtain ⟨⟨hl, hno⟩, h0, h1, h2⟩ := hx
  have hl : t.length < 100000 := hl
  have h0 : 0 < s0 ∧ s0 < 1073741824 := h0
  have h1 : 0 < s1 ∧ s1 < 1073741824 := h1
  have h2 : 0 < s2 ∧ s2 < 1073741824 := h2
  -- a drawn number
  have drw : ∀ (m : Int), (0 < m ∧ m < 1073741824) → ∀ (te : TE) (d : Dt) (r : List Sl) (Post : Dt → List Sl → Prop), potK d → Ev K te (.own (some a) d :: r) (.int m) → (∀ (z : Int) (d1 : Dt), (0 ≤ z ∧ z < m) → potK d1 → Post (.int z) (.own (some a) d1 :: r)) → EvG K (tCall (sp__law_draw K) [] E0 (tCons (tVar 0) (tCons te tNil))) (.own (some a) d :: r) Post := fun m hm te d r Post hd he k => eg_callP m rfl hd (ea_cons he ea_nil) hm fun e d1 hr h1 => by
    obtain ⟨z, rfl, hz⟩ := hr
    exact k z d1 hz h1
  refine q_setG (drw s0 h0 _ d0 _ _ hk (ev_op (ev_var rfl) ev_int (rv_ixT rfl)) fun th d1 hth hk1 => ?_)
  refine q_setG (drw 16 (by decide) _ d1 _ _ hk1 ev_int fun tu d2 htu hk2 => ?_)
  -- what is held
  refine q_set (d := .lst ((t.filter fun o => decide (o.th = th) && (decide (o.nm = .acq) || decide (o.nm = .sha))).map fun o => .tup [.str o.nm.s, .int o.tg])) (en_lcM encE t (fun o => decide (o.th = th) && (decide (o.nm = .acq) || decide (o.nm = .sha))) (fun o => .tup [.str o.nm.s, .int o.tg]) (ei_seqT (ev_var rfl)).r (fun o ho => ?_) (by unfold sizeLine; omega)).ev ?_
  · refine ⟨_, _, fun _ h => h, tg_tup (tgs_cons tg_name (tgs_cons tg_name (tgs_cons tg_name tgs_nil))) rfl, et_and (et_test (ev_op (ev_var rfl) (ev_var rfl) rv_eqAI)) (fun _ => et_test ((ev_op (ev_var rfl) (ev_tup (ea_cons ev_str (ea_cons ev_str ea_nil)) (show 2 ≤ sizeLine by decide)) (rv_in (.tup _) rfl rfl)).is ?_)), fun _ => ev_tup (ea_cons (ev_var rfl) (ea_cons (ev_var rfl) ea_nil)) (show 2 ≤ sizeLine by decide)⟩
    cases o.nm <;> rfl
  generalize hh : (t.filter fun o => decide (o.th = th) && (decide (o.nm = .acq) || decide (o.nm = .sha))) = held
  have hin : ∀ o ∈ held, o ∈ t := fun o ho => by rw [← hh] at ho; exact (List.mem_filter.mp ho).1
  have hll : lay 2 (.lst (held.map fun o => Dt.tup [.str o.nm.s, .int o.tg])) = true := by
    rw [lay]
    refine lays_all fun d hd => ?_
    obtain ⟨o, _, rfl⟩ := List.mem_map.mp hd
    exact lay_nt _ _
  have hne : deq (.lst (held.map fun o => Dt.tup [.str o.nm.s, .int o.tg])) (.lst []) = held.isEmpty := by cases held <;> rfl
  refine q_when (b := decide (tu < 3) && !held.isEmpty) (et_and (et_test (ev_op (ev_var rfl) ev_int rv_B0)) fun _ => et_test ((ev_op (ev_var rfl) (ev_lst ea_nil (by decide)) (rv_neD (n := 2) (m := 1) hll rfl)).is (by rw [hne]))) (fun e => ?_) fun _ => ?_
  · rw [Bool.and_eq_true] at e
    have hpos : 0 < held.length := by
      cases held with
      | nil => cases e.2
      | cons o l => exact Nat.succ_pos _
    obtain ⟨o, ho⟩ : ∃ o, held[held.length - 1]? = some o := ⟨_, List.getElem?_eq_getElem (by omega)⟩
    refine q_setTg (d := .tup [.str o.nm.s, .int o.tg]) (ev_op (ev_var rfl) (ev_unR ev_int.rd ru_I) (rv_ixL ((atI_last (by rw [List.length_map]; exact hpos)).trans ?_))) (tg_tup (tgs_cons tg_name (tgs_cons tg_name tgs_nil)) rfl) ?_
    · rw [List.length_map, List.getElem?_map, ho]
      rfl
    · refine r_ret (ev_tup (ea_cons (ev_var rfl) (ea_cons (ev_if (d := .str (if o.nm = .acq then Nm.rel else Nm.uns).s) (et_test ((ev_op (ev_var rfl) ev_str rv_eqAS).is (congrArg Dt.bl (Nm.dec o.nm .acq)))) (fun z => ?_) fun z => ?_) (ea_cons (ev_var rfl) ea_nil))) (show 3 ≤ sizeLine by decide)) ?_
      · rw [if_pos (of_decide_eq_true z)]
        exact ev_str
      · rw [if_neg (of_decide_eq_false z)]
        exact ev_str
      · exact ⟨⟨⟨th, _, o.tg⟩, rfl, hth.1, (hno o (hin o (List.mem_of_getElem? ho))).2⟩, _, hk2, rfl⟩
  refine q_when (et_test (ev_op (ev_var rfl) ev_int rv_B0)) (fun e => ?_) fun _ => ?_
  · refine r_retG (eg_tup (ag_cons (eg_ev (ev_var rfl) (ag_cons (eg_op (eg_ev (ev_lst (ea_cons ev_str (ea_cons ev_str ea_nil)) (show 2 ≤ sizeLine by decide)) (drw 2 (by decide) _ d2 _ _ hk2 ev_int fun m d3 hm hk3 => ?_)))))))
    rcases pick2 hm with rfl | rfl
    · exact ⟨.str Nm.rd.s, rv_ixL rfl, ag_cons (drw s2 h2 _ d3 _ _ hk3 (ev_op (ev_var rfl) ev_int (rv_ixT rfl)) fun z d4 hz hk4 => ag_nil ⟨show 3 ≤ sizeLine by decide, ⟨⟨th, .rd, z⟩, rfl, hth.1, hz.1⟩, d4, hk4, rfl⟩)⟩
    · exact ⟨.str Nm.wr.s, rv_ixL rfl, ag_cons (drw s2 h2 _ d3 _ _ hk3 (ev_op (ev_var rfl) ev_int (rv_ixT rfl)) fun z d4 hz hk4 => ag_nil ⟨show 3 ≤ sizeLine by decide, ⟨⟨th, .wr, z⟩, rfl, hth.1, hz.1⟩, d4, hk4, rfl⟩)⟩
  refine q_when (et_test (ev_op (ev_var rfl) ev_int rv_B0)) (fun e => ?_) fun _ => ?_
  · exact r_retG (eg_tup (ag_cons (eg_ev (ev_var rfl) (ag_cons (eg_ev ev_str (ag_cons (drw s1 h1 _ d2 _ _ hk2 (ev_op (ev_var rfl) ev_int (rv_ixT rfl)) fun z d4 hz hk4 => ag_nil ⟨show 3 ≤ sizeLine by decide, ⟨⟨th, .acq, z⟩, rfl, hth.1, hz.1⟩, d4, hk4, rfl⟩)))))))
  refine q_when (et_test (ev_op (ev_var rfl) ev_int rv_eqAI)) (fun e => ?_) fun _ => ?_
  · refine r_retG (eg_tup (ag_cons (eg_ev (ev_var rfl) (ag_cons (eg_op (eg_ev (ev_lst (ea_cons ev_str (ea_cons ev_str (ea_cons ev_str ea_nil))) (show 3 ≤ sizeLine by decide)) (drw 3 (by decide) _ d2 _ _ hk2 ev_int fun m d3 hm hk3 => ?_)))))))
    rcases pick3 hm with rfl | rfl | rfl
    · exact ⟨.str Nm.sha.s, rv_ixL rfl, ag_cons (drw s1 h1 _ d3 _ _ hk3 (ev_op (ev_var rfl) ev_int (rv_ixT rfl)) fun z d4 hz hk4 => ag_nil ⟨show 3 ≤ sizeLine by decide, ⟨⟨th, .sha, z⟩, rfl, hth.1, hz.1⟩, d4, hk4, rfl⟩)⟩
    · exact ⟨.str Nm.sha.s, rv_ixL rfl, ag_cons (drw s1 h1 _ d3 _ _ hk3 (ev_op (ev_var rfl) ev_int (rv_ixT rfl)) fun z d4 hz hk4 => ag_nil ⟨show 3 ≤ sizeLine by decide, ⟨⟨th, .sha, z⟩, rfl, hth.1, hz.1⟩, d4, hk4, rfl⟩)⟩
    · exact ⟨.str Nm.acq.s, rv_ixL rfl, ag_cons (drw s1 h1 _ d3 _ _ hk3 (ev_op (ev_var rfl) ev_int (rv_ixT rfl)) fun z d4 hz hk4 => ag_nil ⟨show 3 ≤ sizeLine by decide, ⟨⟨th, .acq, z⟩, rfl, hth.1, hz.1⟩, d4, hk4, rfl⟩)⟩
  -- fork or join
  have last : ∀ (b : Bool) (d3 : Dt) (ρ : List Sl), potK d3 → ρ = [.own (some a) d3, .dat (encT t), .dat (.tup [.int s0, .int s1, .int s2]), .dat (.int th), .dat (.int tu), .dat (.lst (held.map fun o => .tup [.str o.nm.s, .int o.tg])), .un, .un, .un] →
      ∃ f, RV K (rIx K) (.lst [.str "fork", .str "join"]) (.int (if b = true then 1 else 0)) f ∧ EvAG K (tCons (tCall (sp__law_draw K) [] E0 (tCons (tVar 0) (tCons (tOp (rIx K) (tVar 2) (tC (.int 0))) tNil))) tNil) ρ fun ds ρ2 => (3 ≤ sizeLine ∧ ∃ z : Int, ds = [.int z] ∧ 0 ≤ z) ∧ (∃ m : Nm, f = .str m.s) ∧ ∃ d1, potK d1 ∧ ρ2[0]? = some (.own (some a) d1) := fun b d3 ρ hk3 hρ => by
    subst hρ
    cases b with
    | true => exact ⟨.str Nm.jn.s, rv_ixL rfl, ag_cons (drw s0 h0 _ d3 _ _ hk3 (ev_op (ev_var rfl) ev_int (rv_ixT rfl)) fun z d4 hz hk4 => ag_nil ⟨⟨by decide, z, rfl, hz.1⟩, ⟨.jn, rfl⟩, d4, hk4, rfl⟩)⟩
    | false => exact ⟨.str Nm.frk.s, rv_ixL rfl, ag_cons (drw s0 h0 _ d3 _ _ hk3 (ev_op (ev_var rfl) ev_int (rv_ixT rfl)) fun z d4 hz hk4 => ag_nil ⟨⟨by decide, z, rfl, hz.1⟩, ⟨.frk, rfl⟩, d4, hk4, rfl⟩)⟩
  have wrap : ∀ (b : Bool) (d3 : Dt) (ρ : List Sl), potK d3 → ρ = [.own (some a) d3, .dat (encT t), .dat (.tup [.int s0, .int s1, .int s2]), .dat (.int th), .dat (.int tu), .dat (.lst (held.map fun o => .tup [.str o.nm.s, .int o.tg])), .un, .un, .un] →
      ∃ f, RV K (rIx K) (.lst [.str "fork", .str "join"]) (.int (if b = true then 1 else 0)) f ∧ EvAG K (tCons (tCall (sp__law_draw K) [] E0 (tCons (tVar 0) (tCons (tOp (rIx K) (tVar 2) (tC (.int 0))) tNil))) tNil) ρ fun ds ρ2 => (.int th :: f :: ds).length ≤ sizeLine ∧ ((∃ e : Evt, Dt.tup (.int th :: f :: ds) = encE e ∧ e.ok) ∧ ∃ d1, potK d1 ∧ ρ2[0]? = some (.own (some a) d1)) := fun b d3 ρ hk3 hρ => by
    obtain ⟨f, h1, h2⟩ := last b d3 ρ hk3 hρ
    refine ⟨f, h1, ag_imp h2 fun ds ρ2 ⟨⟨z3, z, e1, e2⟩, ⟨m, e3⟩, e4⟩ => ?_⟩
    subst e1
    subst e3
    exact ⟨z3, ⟨⟨th, m, z⟩, rfl, hth.1, e2⟩, e4⟩
  refine r_retG (eg_tup (ag_cons (eg_ev (ev_var rfl) (ag_cons (eg_op (eg_ev (ev_lst (ea_cons ev_str (ea_cons ev_str ea_nil)) (show 2 ≤ sizeLine by decide)) (eg_cb1 (eg_andV (eg_ev (ev_op (ev_var rfl) ev_int rv_eqAI) ⟨_, rfl, ?_⟩)))))))))
  by_cases h15 : tu = 15
  · rw [if_pos (decide_eq_true h15)]
    exact eg_op (drw 3 (by decide) _ d2 _ _ hk2 ev_int fun m d3 hm hk3 => eg_ev ev_int ⟨_, rv_eqAI, _, rc_intB, wrap _ d3 _ hk3 rfl⟩)
  · rw [if_neg (by simp [h15])]
    exact ⟨_, rc_intB, wrap false d2 _ hk2 rfl⟩
theorem ok__law_event {P : Program} {w : World} {K : PySem.W.Frag} {mg : Str → Option Value} {base : Heap} (T : Txt w K mg) : Def P w K mg base "_law_event" ["pot", "events", "size"] 3 (sp__law_event K) := by
  obtain ⟨f, fd, F, gl⟩ := T.fn__law_event
  exact ⟨f, fd, gl, F.kp, FunD.bindsN F (fun _ _ _ _ _ _ us hl => match us, hl with | [_, _, _], _ => rfl), fn_pg F sc__law_event (fun _ => rfl) (t__law_event K) (fun cdv A outer s H E hr => (pss_cons (ps_set (i := 3) sc__law_event.nd rfl (by first | exact Or.inl rfl | exact Or.inr rfl) (pe_callD (ok__law_draw T) hr (by decide) (by rfl) (pa_cons (pv 0) (pa_cons (pe_ix ix_seq (pv 2) pe_int (fun _ _ => rfl)) pa_nil)))) (pss_cons (ps_set (i := 4) sc__law_event.nd rfl (by first | exact Or.inl rfl | exact Or.inr rfl) (pe_callD (ok__law_draw T) hr (by decide) (by rfl) (pa_cons (pv 0) (pa_cons pe_int pa_nil)))) (pss_cons (ps_setLc (i := 5) (own := [("one", 8), ("name", 6), ("lock", 7)]) rfl sc__law_event.nd rfl rfl (sw_true rfl rfl rfl (by decide +kernel)) (pi_seq (pv 1)) (blkOk_by (by kernel_rfl)) (fun _ _ _ _ _ => (pg_tup rfl (pgs_cons (pg_name (i := 8) sc__law_event.nd rfl (by first | exact Or.inl rfl | exact Or.inr rfl)) (pgs_cons (pg_name (i := 6) sc__law_event.nd rfl (by first | exact Or.inl rfl | exact Or.inr rfl)) (pgs_cons (pg_name (i := 7) sc__law_event.nd rfl (by first | exact Or.inl rfl | exact Or.inr rfl)) pgs_nil))))) (fun _ _ _ _ _ => (pts_one (PW.pt (pw_and (pt_cmpR (op_eqA (hu65 hr)) (pv 8) (pv 3) (nomark _)) (pw_and1 (pt_cmpR (op_inA (hu65 hr)) (pv 6) (pe_tup (pa_cons pe_str (pa_cons pe_str pa_nil))) (by rfl))))))) (fun _ _ _ _ _ => (pe_tup (pa_cons (pv 6) (pa_cons (pv 7) pa_nil))))) (pss_cons (ps_if (PW.pt (pw_and (pt_cmpR op_lt (pv 4) pe_int (nomark _)) (pw_and1 (pt_cmpR (op_neA (hu65 hr)) (pv 5) (pe_lst pa_nil) (nomark _))))) (pss_cons (ps_asg (pe_ix ix_seq (pv 5) (pe_un un_neg pe_int) (fun _ _ => rfl)) (pg_tup rfl (pgs_cons (pg_name (i := 6) sc__law_event.nd rfl (by first | exact Or.inl rfl | exact Or.inr rfl)) (pgs_cons (pg_name (i := 7) sc__law_event.nd rfl (by first | exact Or.inl rfl | exact Or.inr rfl)) pgs_nil)))) (pss_one (ps_ret (pe_tup (pa_cons (pv 3) (pa_cons (pe_ifExp (pt_cmpR (op_eqA (hu65 hr)) (pv 6) pe_str (nomark _)) pe_str pe_str) (pa_cons (pv 7) pa_nil))))))) pss_nil) (pss_cons (ps_if (pt_cmpR op_lt (pv 4) pe_int (nomark _)) (pss_one (ps_ret (pe_tup (pa_cons (pv 3) (pa_cons (pe_ix ix_seq (pe_lst (pa_cons pe_str (pa_cons pe_str pa_nil))) (pe_callD (ok__law_draw T) hr (by decide) (by rfl) (pa_cons (pv 0) (pa_cons pe_int pa_nil))) (fun _ _ => rfl)) (pa_cons (pe_callD (ok__law_draw T) hr (by decide) (by rfl) (pa_cons (pv 0) (pa_cons (pe_ix ix_seq (pv 2) pe_int (fun _ _ => rfl)) pa_nil))) pa_nil)))))) pss_nil) (pss_cons (ps_if (pt_cmpR op_lt (pv 4) pe_int (nomark _)) (pss_one (ps_ret (pe_tup (pa_cons (pv 3) (pa_cons pe_str (pa_cons (pe_callD (ok__law_draw T) hr (by decide) (by rfl) (pa_cons (pv 0) (pa_cons (pe_ix ix_seq (pv 2) pe_int (fun _ _ => rfl)) pa_nil))) pa_nil)))))) pss_nil) (pss_cons (ps_if (pt_cmpR (op_eqA (hu65 hr)) (pv 4) pe_int (nomark _)) (pss_one (ps_ret (pe_tup (pa_cons (pv 3) (pa_cons (pe_ix ix_seq (pe_lst (pa_cons pe_str (pa_cons pe_str (pa_cons pe_str pa_nil)))) (pe_callD (ok__law_draw T) hr (by decide) (by rfl) (pa_cons (pv 0) (pa_cons pe_int pa_nil))) (fun _ _ => rfl)) (pa_cons (pe_callD (ok__law_draw T) hr (by decide) (by rfl) (pa_cons (pv 0) (pa_cons (pe_ix ix_seq (pv 2) pe_int (fun _ _ => rfl)) pa_nil))) pa_nil)))))) pss_nil) (pss_one (ps_ret (pe_tup (pa_cons (pv 3) (pa_cons (pe_ix ix_seq (pe_lst (pa_cons pe_str (pa_cons pe_str pa_nil))) (pe_callTy call_int1 (by rfl) T.b_int (by decide +kernel) (pa_cons (pe_and (pe_cmpR (op_eqA (hu65 hr)) (pv 4) pe_int (nomark _)) (pe_one (pe_cmpR (op_eqA (hu65 hr)) (pe_callD (ok__law_draw T) hr (by decide) (by rfl) (pa_cons (pv 0) (pa_cons pe_int pa_nil))) pe_int (nomark _)))) pa_nil)) (fun _ _ => rfl)) (pa_cons (pe_callD (ok__law_draw T) hr (by decide) (by rfl) (pa_cons (pv 0) (pa_cons (pe_ix ix_seq (pv 2) pe_int (fun _ _ => rfl)) pa_nil))) pa_nil)))))))))))))) (by decide) (fun x a d0 hx hk => run__law_event x a d0 hx hk)⟩
end DL
namespace DL
open PySem PySem.Spec L2
theorem sc__law_locks : FnScope ["events", "alone", "shared", "thread", "name", "target"] ["events"] (defScope s__law_locks) := ⟨rfl, rfl, rfl, by decide +kernel, rfl, by decide +kernel, by decide +kernel⟩
/-- what is held after a trace: alone, shared -/
def lkStep (s : List (Int × Int) × List (Int × Int)) (e : Evt) : List (Int × Int) × List (Int × Int) := match e.nm with
  | .acq => (aput s.1 e.tg e.th, s.2)
  | .rel => (adrop s.1 e.tg, s.2)
  | .sha => (s.1, pput s.2 (e.th, e.tg))
  | .uns => (s.1, s.2.filter fun q => decide (q ≠ (e.th, e.tg)))
  | _ => s
def lk (t : Tr) : List (Int × Int) × List (Int × Int) := t.foldl lkStep ([], [])
theorem lk_snoc (t : Tr) (e : Evt) : lk (t ++ [e]) = lkStep (lk t) e := by
  unfold lk
  rw [List.foldl_append]
  rfl
theorem pput_len (l : List (Int × Int)) (p : Int × Int) : (pput l p).length ≤ l.length + 1 := by
  unfold pput
  split
  · omega
  · rw [List.length_append, List.length_singleton]
    omega
theorem lk_len (t : Tr) : (lk t).1.length ≤ t.length ∧ (lk t).2.length ≤ t.length := by
  have key : ∀ r : Tr, (lk r.reverse).1.length ≤ r.length ∧ (lk r.reverse).2.length ≤ r.length := fun r => by
    induction r with
    | nil => exact ⟨Nat.le_refl _, Nat.le_refl _⟩
    | cons e r ih =>
      rw [List.reverse_cons, lk_snoc, List.length_cons]
      obtain ⟨h1, h2⟩ := ih
      have a1 := aput_len (lk r.reverse).1 e.tg e.th
      have a2 : (adrop (lk r.reverse).1 e.tg).length ≤ (lk r.reverse).1.length := List.length_filter_le _ _
      have a3 := pput_len (lk r.reverse).2 (e.th, e.tg)
      have a4 := List.length_filter_le (fun q => decide (q ≠ (e.th, e.tg))) (lk r.reverse).2
      unfold lkStep
      cases e.nm <;> simp only <;> constructor <;> omega
  have := key t.reverse
  rw [List.reverse_reverse, List.length_reverse] at this
  exact this
theorem adrop_none {α : Type} {l : List (Int × α)} {k : Int} (h : alook l k = none) : adrop l k = l := by
  unfold adrop
  refine List.filter_eq_self.mpr fun p hp => decide_eq_true fun z => ?_
  unfold alook at h
  have h2 : l.find? (fun p => decide (p.1 = k)) = none := by
    cases q : l.find? (fun p => decide (p.1 = k)) with
    | none => rfl
    | some x => rw [q] at h; cases h
  have := List.find?_eq_none.mp h2 p hp
  exact this (decide_eq_true z)
theorem filter_none {l : List (Int × Int)} {p : Int × Int} (h : p ∉ l) : (l.filter fun q => decide (q ≠ p)) = l := List.filter_eq_self.mpr fun q hq => decide_eq_true fun z => h (by rw [← z]; exact hq)
abbrev sp__law_locks (K : PySem.W.Frag) : Sp := spD K (fun x : Tr => [encT x]) (fun x => x.length ≤ 100000) (fun x => .tup [dkI .int (lk x).1, dtP (lk x).2])
def t__law_locks (K : PySem.W.Frag) : TS := (tSeq (tPar 1 2 (tCons tDNewK (tCons tDNewT tNil))) (tSeq (tFor (iSeq K (tVar 0)) (gTup K 3 (gCons (gName 3) (gCons (gName 4) (gCons (gName 5) gNil)))) (tSeq (tIfS (tTest (tOp (rEqA K) (tVar 4) (tC (.str "acquire")))) (sDPut (tVar 1) (tVar 5) (tVar 3)) tNext) (tSeq (tIfS (tAnd (tTest (tOp (rEqA K) (tVar 4) (tC (.str "release")))) (tTest (tOp (rInA K) (tVar 5) (tVar 1)))) (tDrop (tDPop1 (tVar 1) (tVar 5))) tNext) (tSeq (tIfS (tTest (tOp (rEqA K) (tVar 4) (tC (.str "share")))) (sDPut (tVar 2) (tTup (tCons (tVar 3) (tCons (tVar 5) tNil))) (tC (.bl true))) tNext) (tIfS (tAnd (tTest (tOp (rEqA K) (tVar 4) (tC (.str "unshare")))) (tTest (tOp (rInA K) (tTup (tCons (tVar 3) (tCons (tVar 5) tNil))) (tVar 2)))) (tDrop (tDPopT (tVar 2) (tTup (tCons (tVar 3) (tCons (tVar 5) tNil))))) tNext))))) (tRet (tTup (tCons (tVar 1) (tCons (tVar 2) tNil))))))
theorem run__law_locks {K : PySem.W.Frag} (x : Tr) (hx : x.length ≤ 100000) : Runs K (t__law_locks K) [.dat (encT x), .un, .un, .un, .un, .un] { nx := fun _ => (.tup [dkI .int (lk x).1, dtP (lk x).2] : Dt) = .non, rt := fun e _ => e = .tup [dkI .int (lk x).1, dtP (lk x).2] } := by
  refine q_parNN en_dk en_dt ?_
  refine q_for (ds := x.map encE) (sl := [3, 4, 5]) (ei_seqT (ev_var rfl)) (fun k ρ => ∃ s3 s4 s5, ρ = [.dat (encT x), .own none (dkI .int (lk (x.take k)).1), .own none (dtP (lk (x.take k)).2), s3, s4, s5]) ⟨_, _, _, rfl⟩ ?_ ?_
  · intro k d ρ2 hk ⟨s3, s4, s5, e⟩
    subst e
    have hkl : k < x.length := by
      have := (List.getElem?_eq_some_iff.mp hk).1
      rw [List.length_map] at this
      exact this
    have hxk : x[k]? = some x[k] := List.getElem?_eq_getElem hkl
    have hd : d = encE x[k] := by
      rw [List.getElem?_map, hxk] at hk
      exact (Option.some.inj hk).symm
    subst hd
    have tk : x.take (k + 1) = x.take k ++ [x[k]] := by rw [List.take_add_one, hxk]; rfl
    rw [tk, lk_snoc]
    obtain ⟨l1, l2⟩ := lk_len (x.take k)
    rw [List.length_take] at l1 l2
    have hx : x.length ≤ 100000 := hx
    generalize hS : lk (x.take k) = S at l1 l2
    obtain ⟨al, sh⟩ := S
    have l1 : al.length ≤ min k x.length := l1
    have l2 : sh.length ≤ min k x.length := l2
    obtain ⟨th, nm, tg⟩ := x[k]
    refine ⟨_, tg_tup (tgs_cons tg_name (tgs_cons tg_name (tgs_cons tg_name tgs_nil))) rfl, ?_⟩
    -- the four questions
    have ask : ∀ (ρ : List Sl) (m : Nm), ρ[4]? = some (.dat (.str nm.s)) → Ev K (tOp (rEqA K) (tVar 4) (tC (.str m.s))) ρ (.bl (decide (nm = m))) := fun ρ m h => (ev_op (ev_var h) ev_str rv_eqAS).is (by rw [Nm.dec])
    have fin : ∀ (al2 : List (Int × Int)) (sh2 : List (Int × Int)), lkStep (al, sh) ⟨th, nm, tg⟩ = (al2, sh2) → ∃ s3 s4 s5, ([.dat (encT x), .own none (dkI .int al2), .own none (dtP sh2), .dat (.int th), .dat (.str nm.s), .dat (.int tg)] : List Sl) = [.dat (encT x), .own none (dkI .int (lkStep (al, sh) ⟨th, nm, tg⟩).1), .own none (dtP (lkStep (al, sh) ⟨th, nm, tg⟩).2), s3, s4, s5] := fun al2 sh2 h => ⟨_, _, _, by rw [h]⟩
    refine r_seq (r_if (et_test (ask _ .acq rfl)) (fun e => ?_) fun e1 => r_next ?_)
    · have e : nm = .acq := of_decide_eq_true e
      subst e
      refine r_put (F := Dt.int) rfl (ev_var rfl) (ev_var rfl) (by unfold sizeLine; omega) ?_
      refine r_seq (r_if (b := false) (et_andF (et_test (ask _ .rel rfl))) (fun z => by cases z) fun _ => r_next ?_)
      refine r_seq (r_if (b := false) (et_test (ask _ .sha rfl)) (fun z => by cases z) fun _ => r_next ?_)
      refine r_if (b := false) (et_andF (et_test (ask _ .uns rfl))) (fun z => by cases z) fun _ => r_next (fin _ _ rfl)
    refine r_seq (r_if (b := decide (nm = .rel) && (alook al tg).isSome) (et_and (et_test (ask _ .rel rfl)) fun _ => et_test ((ev_opR (ev_var rfl).rd (er_var rfl) (rv_ind (k := .inl tg))).is (by rw [dget_I]; cases alook al tg <;> rfl))) (fun e => ?_) fun e2 => r_next ?_)
    · rw [Bool.and_eq_true] at e
      have e0 : nm = .rel := of_decide_eq_true e.1
      subst e0
      obtain ⟨v, hv⟩ := Option.isSome_iff_exists.mp e.2
      refine r_dropM (em_pop (F := Dt.int) rfl (ev_var rfl) hv) ?_
      refine r_seq (r_if (b := false) (et_test (ask _ .sha rfl)) (fun z => by cases z) fun _ => r_next ?_)
      refine r_if (b := false) (et_andF (et_test (ask _ .uns rfl))) (fun z => by cases z) fun _ => r_next (fin _ _ rfl)
    refine r_seq (r_if (et_test (ask _ .sha rfl)) (fun e => ?_) fun e3 => r_next ?_)
    · have e : nm = .sha := of_decide_eq_true e
      subst e
      refine r_putT (p := (th, tg)) rfl ev_bl (ev_tup (ea_cons (ev_var rfl) (ea_cons (ev_var rfl) ea_nil)) (show 2 ≤ sizeLine by decide)) (by unfold sizeLine; omega) ?_
      refine r_if (b := false) (et_andF (et_test (ask _ .uns rfl))) (fun z => by cases z) fun _ => r_next (fin _ _ rfl)
    refine r_if (b := decide (nm = .uns) && decide ((th, tg) ∈ sh)) (et_and (et_test (ask _ .uns rfl)) fun _ => et_test (ev_opR (Ev.rd (ev_tup (ea_cons (ev_var rfl) (ea_cons (ev_var rfl) ea_nil)) (show 2 ≤ sizeLine by decide))) (er_var rfl) (rv_inT (p := (th, tg))))) (fun e => ?_) fun e4 => r_next ?_
    · rw [Bool.and_eq_true] at e
      have e0 : nm = .uns := of_decide_eq_true e.1
      subst e0
      exact r_dropM (em_popT (p := (th, tg)) rfl (ev_tup (ea_cons (ev_var rfl) (ea_cons (ev_var rfl) ea_nil)) (show 2 ≤ sizeLine by decide)) (of_decide_eq_true e.2)) (fin _ _ rfl)
    · refine fin al sh ?_
      have n1 := of_decide_eq_false e1
      have n3 := of_decide_eq_false e3
      unfold lkStep
      cases nm with
      | acq => exact absurd rfl n1
      | sha => exact absurd rfl n3
      | rel =>
        have h : alook al tg = none := by
          cases q : alook al tg with
          | none => rfl
          | some v => rw [q] at e2; cases e2
        show (adrop al tg, sh) = (al, sh)
        rw [adrop_none h]
      | uns =>
        have h : (th, tg) ∉ sh := fun z => by rw [decide_eq_true z] at e4; cases e4
        show (al, sh.filter _) = (al, sh)
        rw [filter_none h]
      | _ => rfl
  · intro ρ2 ⟨s3, s4, s5, e⟩
    subst e
    rw [List.length_map, List.take_length]
    refine r_freeze 1 rfl (r_freeze 2 rfl (r_ret (ev_tup (ea_cons (ev_var rfl) (ea_cons (ev_var rfl) ea_nil)) (show 2 ≤ sizeLine by decide)) rfl))
theorem ok__law_locks {P : Program} {w : World} {K : PySem.W.Frag} {mg : Str → Option Value} {base : Heap} (T : Txt w K mg) : Def P w K mg base "_law_locks" ["events"] 1 (sp__law_locks K) := by
  obtain ⟨f, fd, F, gl⟩ := T.fn__law_locks
  exact ⟨f, fd, gl, F.kp, FunD.bindsN F (fun _ _ _ _ _ _ us hl => match us, hl with | [_], _ => rfl), fn_f F sc__law_locks (fun _ => rfl) (t__law_locks K) (fun cdv A outer s H E hr => (pss_cons (ps_par (by rfl) sc__law_locks.nd rfl rfl (by decide) rfl rfl (pa_cons pe_dnewK (pa_cons pe_dnewT pa_nil)) (by rfl)) (pss_cons (ps_for PassesOwn.never rfl (pi_seq (pv 0)) (pg_tup rfl (pgs_cons (pg_name (i := 3) sc__law_locks.nd rfl (by first | exact Or.inl rfl | exact Or.inr rfl)) (pgs_cons (pg_name (i := 4) sc__law_locks.nd rfl (by first | exact Or.inl rfl | exact Or.inr rfl)) (pgs_cons (pg_name (i := 5) sc__law_locks.nd rfl (by first | exact Or.inl rfl | exact Or.inr rfl)) pgs_nil)))) (pss_cons (ps_if (pt_cmpR (op_eqA (hu65 hr)) (pv 4) pe_str (nomark _)) (pss_one (ps_dput (hu_of hr) (pv 1) (pv 5) (pv 3) rfl)) pss_nil) (pss_cons (ps_if (PW.pt (pw_and (pt_cmpR (op_eqA (hu65 hr)) (pv 4) pe_str (nomark _)) (pw_and1 (pt_cmpR (op_inA (hu65 hr)) (pv 5) (pv 1) (by rfl))))) (pss_one (ps_expr (pe_dpop1 (pv 1) (pv 5) ⟨rfl, rfl, rfl, rfl⟩))) pss_nil) (pss_cons (ps_if (pt_cmpR (op_eqA (hu65 hr)) (pv 4) pe_str (nomark _)) (pss_one (ps_dput (hu_of hr) (pv 2) (pe_tup (pa_cons (pv 3) (pa_cons (pv 5) pa_nil))) pe_bl rfl)) pss_nil) (pss_one (ps_if (PW.pt (pw_and (pt_cmpR (op_eqA (hu65 hr)) (pv 4) pe_str (nomark _)) (pw_and1 (pt_cmpR (op_inA (hu65 hr)) (pe_tup (pa_cons (pv 3) (pa_cons (pv 5) pa_nil))) (pv 2) (by rfl))))) (pss_one (ps_expr (pe_dpopT (hu_of hr) (pv 2) (pe_tup (pa_cons (pv 3) (pa_cons (pv 5) pa_nil))) ⟨rfl, rfl, rfl, rfl⟩))) pss_nil)))))) (pss_one (ps_ret (pe_tup (pa_cons (pv 1) (pa_cons (pv 2) pa_nil)))))))) (by decide) (fun x hx => run__law_locks x hx)⟩
end DL
namespace DL
open PySem PySem.Spec L2
theorem sc__law_open : FnScope ["events", "event", "alone", "shared", "thread", "name", "target", "pair"] ["events", "event"] (defScope s__law_open) := ⟨rfl, rfl, rfl, by decide +kernel, rfl, by decide +kernel, by decide +kernel⟩
/-- may the event come, as far as locks go -/
def lopen (s : List (Int × Int) × List (Int × Int)) (e : Evt) : Bool := match e.nm with
  | .acq => (alook s.1 e.tg).isNone && (s.2.filter fun p => decide (p.2 = e.tg)).isEmpty
  | .sha => (alook s.1 e.tg).isNone && !decide ((e.th, e.tg) ∈ s.2)
  | .rel => alook s.1 e.tg == some e.th
  | .uns => decide ((e.th, e.tg) ∈ s.2)
  | _ => true
def pairD (p : Int × Int) : Dt := .tup [.int p.1, .int p.2]
section
variable {K : PySem.W.Frag}
theorem keep_pair {H H' : Hp} (s : Same H H') {q : Addr} {p : Int × Int} (h : H q = some (.tup ((kP p).map kV))) : Has K H' (pairD p) (.ref q) := ⟨q, [.int p.1, .int p.2], rfl, s _ _ h, _, _, rfl, rfl, _, _, rfl, rfl, rfl⟩
/-- the pairs of a target, out of a dict that is held fast -/
theorem lc_pairs {σ : L2.St} {H : Hp} {a : Addr} {o : Obj} {sh : List (Int × Int)} {tg : Int} (h3 : σ[3]? = some (some (.ref a))) (h6 : σ[6]? = some (some (.int tg))) (hl : σ.length = 8) (ha : H a = some (.frz o (.dT (kvP sh)))) (hz : sh.length < 100000) {Q : VK}
    (q : ∀ D H', Same H H' → H D = none → (∃ ws, H' D = some (.lst ws) ∧ HasL K H' ((sh.filter fun p => decide (p.2 = tg)).map pairD) ws) → Q (.ref D) H') : (tLc (iKeys (tVar 3)) (gName 7) (tTest (tOp (rEqA K) (tOp (rIx K) (tVar 7) (tC (.int 1))) (tVar 6))) (tVar 7) [7]) σ H Q := by
  refine ⟨_, h3, a, o, rfl, .inr ⟨kvP sh, ha, fun D hD => ?_⟩⟩
  refine ⟨fun i m H2 => m = sh.length - i ∧ i ≤ sh.length ∧ Same H H2 ∧ ∃ ws, H2 D = some (.lst ws) ∧ HasL K H2 (((sh.take i).filter fun p => decide (p.2 = tg)).map pairD) ws, ⟨sh.length, by omega, by omega, same_new hD, [], upd_same, rfl⟩, fun i m H2 hW => ?_⟩
  obtain ⟨rfl, hi, s2, ws, hws, hh⟩ := hW
  by_cases hlt : i < sh.length
  · refine .inr ⟨⟨s2 _ _ ha, by rw [kvP_len]; exact hlt⟩, fun H3 => Same H H3 ∧ ∃ ws, H3 D = some (.lst ws) ∧ HasL K H3 (((sh.take (i + 1)).filter fun p => decide (p.2 = tg)).map pairD) ws, fun H3 ⟨a1, a2⟩ => ⟨sh.length - (i + 1), by omega, rfl, hlt, a1, a2⟩, fun x H3 hy => ?_⟩
    obtain ⟨rfl, k, v, b, hk, rfl, hb⟩ := hy
    have hx : sh[i]? = some sh[i] := List.getElem?_eq_getElem hlt
    have hkk : k = kP sh[i] := by
      unfold kvP at hk
      rw [List.getElem?_map, hx] at hk
      exact congrArg Prod.fst (Option.some.inj hk).symm
    subst hkk
    generalize sh[i] = p at hb hx
    have tk : sh.take (i + 1) = sh.take i ++ [p] := by rw [List.take_add_one, hx]; rfl
    have w1 : wipe σ [7] = σ.set 7 none := rfl
    have w2 : wipe ((wipe σ [7]).set 7 (some (.ref b))) [7] = wipe σ [7] := by
      show ((σ.set 7 none).set 7 (some (.ref b))).set 7 none = σ.set 7 none
      rw [List.set_set, List.set_set]
    refine ⟨w2, ?_⟩
    have g7 : ((wipe σ [7]).set 7 (some (.ref b)))[7]? = some (some (.ref b)) := List.getElem?_set_self (by rw [w1, List.length_set, hl]; decide)
    have g6 : ((wipe σ [7]).set 7 (some (.ref b)))[6]? = some (some (.int tg)) := by
      rw [List.getElem?_set_ne (by decide), w1, List.getElem?_set_ne (by decide)]
      exact h6
    refine ⟨_, g7, .inr (.inl ⟨b, (kP p).map kV, 1, .int p.2, rfl, rfl, SqT.of hb, rfl, _, g6, .inl ⟨rfl, decide (V.int p.2 = V.int tg), rfl, ?_⟩⟩)⟩
    have hd : decide (V.int p.2 = V.int tg) = decide (p.2 = tg) := decide_eq_decide.mpr ⟨fun z => V.int.inj z, fun z => by rw [z]⟩
    rw [hd, tk]
    show (if decide (p.2 = tg) = true then _ else _)
    by_cases hc : p.2 = tg
    · rw [if_pos (decide_eq_true hc)]
      refine ⟨_, g7, ws, hws, ?_, fun c u hcu => ?_, ws ++ [.ref b], upd_same, ?_⟩
      · rw [hh.len, List.length_map]
        have h1 := List.length_filter_le (fun p : Int × Int => decide (p.2 = tg)) (sh.take i)
        rw [List.length_take] at h1
        unfold sizeLine
        omega
      · rw [upd_ne (ne_of_none hcu hD)]
        exact s2 _ _ hcu
      · rw [List.filter_append, List.map_append]
        have e1 : ([p].filter fun p => decide (p.2 = tg)) = [p] := by simp [hc]
        rw [e1]
        have ht : ∀ c xs, H3 c = some (.tup xs) → upd H3 D (.lst (ws ++ [V.ref b])) c = some (.tup xs) := fun c xs hc => by
          by_cases z : c = D
          · subst z; rw [hws] at hc; cases hc
          · rw [upd_ne z]; exact hc
        refine HasL.snoc (HasL.tups ht ?_ hh) (Has.tups ht (d := pairD p) rfl (keep_pair (Same.refl _) hb))
        clear hh
        induction ((sh.take i).filter fun p => decide (p.2 = tg)) with
        | nil => rfl
        | cons y ys ih => exact ih
    · rw [if_neg (by simp [hc])]
      refine ⟨s2, ws, hws, ?_⟩
      rw [List.filter_append]
      have e1 : ([p].filter fun p => decide (p.2 = tg)) = [] := by simp [hc]
      rw [e1, List.append_nil]
      exact hh
  · have e : i = sh.length := by omega
    subst e
    refine .inl ⟨⟨s2 _ _ ha, by rw [kvP_len]; exact Nat.le_refl _⟩, q D H2 s2 hD ⟨ws, hws, ?_⟩⟩
    rw [List.take_length] at hh
    exact hh
theorem lay_pairs (l : List (Int × Int)) : lay 2 (.lst (l.map pairD)) = true := by
  rw [lay]
  refine lays_all fun d hd => ?_
  obtain ⟨p, _, rfl⟩ := List.mem_map.mp hd
  unfold pairD
  rw [lay, lays, lays, lays, lay_int, lay_int]
  rfl
theorem ev_pairs {ρ : List Sl} {sh : List (Int × Int)} {tg : Int} (h3 : ρ[3]? = some (.dat (dtP sh))) (h6 : ρ[6]? = some (.dat (.int tg))) (hl : ρ.length = 8) (hz : sh.length < 100000) : Ev K (tOp (rEqA K) (tLockW (tLc (iKeys (tVar 3)) (gName 7) (tTest (tOp (rEqA K) (tOp (rIx K) (tVar 7) (tC (.int 1))) (tVar 6))) (tVar 7) [7])) (tLst tNil)) ρ (.bl (sh.filter fun p => decide (p.2 = tg)).isEmpty) := fun O Y H σ I Q q => by
  obtain ⟨v3, a3, b3⟩ := I.dat h3
  obtain ⟨a, rfl, ha⟩ := HasR.dtP (.inl b3)
  have ha := (show Rd H a (.dT (kvP sh)) from ha)
  obtain ⟨v6, a6, b6⟩ := I.dat h6
  cases (show v6 = _ from b6)
  have hl' : σ.length = 8 := by rw [I.len]; exact hl
  have fin : ∀ (D : Addr) (H' : Hp) (ws : List V), Same H H' → H' D = some (.lst ws) → HasL K H' ((sh.filter fun p => decide (p.2 = tg)).map pairD) ws → (tLst tNil) σ H' fun y H2 => rEqA K (.ref D) y H2 Q := fun D H' ws s hD hw => by
    refine ⟨(show 0 ≤ sizeLine by decide), fun E hE => .inr ⟨pd (.lst ((sh.filter fun p => decide (p.2 = tg)).map pairD)), pd (.lst []), ?_, ?_, lay_shaped (n := 2) (by decide) (lay_pairs _), lay_shaped (n := 1) (by decide) rfl, ?_⟩⟩
    · refine Has.dp (n := 2) (lay_pairs _) ⟨D, ws, rfl, .inl ?_, hw.mono (same_new hE)⟩
      rw [upd_ne (ne_of_none hD hE)]
      exact hD
    · exact Has.dp (n := 1) (d := .lst []) rfl ⟨E, [], rfl, .inl upd_same, rfl⟩
    · refine q _ _ (s.trans (same_new hE)) ?_
      cases (sh.filter fun p => decide (p.2 = tg)) <;> rfl
  rcases ha with ha | ⟨o, ha⟩
  · refine .inl ⟨a, _, ha, trivial, fun od => lc_pairs a3 a6 hl' upd_same hz fun D H' s hD ⟨ws, hws, hw⟩ => ⟨s _ _ upd_same, ?_⟩⟩
    have hDa : D ≠ a := fun z => by subst z; rw [upd_same] at hD; cases hD
    have hfr : H' a = some (.frz od (.dT (kvP sh))) := s _ _ upd_same
    refine fin D _ ws (fun b u hb => ?_) (by rw [upd_ne hDa]; exact hws) (hw.monoR (unlock_rd hfr))
    by_cases z : b = a
    · subst z
      rw [ha] at hb
      cases hb
      exact upd_same
    · rw [upd_ne z]
      exact s _ _ (by rw [upd_ne z]; exact hb)
  · exact .inr (lc_pairs a3 a6 hl' ha hz fun D H' s hD ⟨ws, hws, hw⟩ => fin D H' ws s hws hw)
end
abbrev sp__law_open (K : PySem.W.Frag) : Sp := spD K (fun x : Tr × Evt => [encT x.1, encE x.2]) (fun x => x.1.length < 100000) (fun x => .bl (lopen (lk x.1) x.2))
def t__law_open (K : PySem.W.Frag) : TS := (tSeq (tAsg (tCall (sp__law_locks K) [] E0 (tCons (tVar 0) tNil)) (gTup K 2 (gCons (gName 2) (gCons (gName 3) gNil)))) (tSeq (tAsg (tVar 1) (gTup K 3 (gCons (gName 4) (gCons (gName 5) (gCons (gName 6) gNil))))) (tSeq (tIfS (tTest (tOp (rEqA K) (tVar 5) (tC (.str "acquire")))) (tRet (tAndV (tOp (rNotInA K) (tVar 6) (tVar 2)) (tOp (rEqA K) (tLockW (tLc (iKeys (tVar 3)) (gName 7) (tTest (tOp (rEqA K) (tOp (rIx K) (tVar 7) (tC (.int 1))) (tVar 6))) (tVar 7) [7])) (tLst tNil)))) tNext) (tSeq (tIfS (tTest (tOp (rEqA K) (tVar 5) (tC (.str "share")))) (tRet (tAndV (tOp (rNotInA K) (tVar 6) (tVar 2)) (tOp (rNotInA K) (tTup (tCons (tVar 4) (tCons (tVar 6) tNil))) (tVar 3)))) tNext) (tSeq (tIfS (tTest (tOp (rEqA K) (tVar 5) (tC (.str "release")))) (tRet (tAndV (tOp (rInA K) (tVar 6) (tVar 2)) (tOp (rEqA K) (tDGet (tVar 2) (tVar 6)) (tVar 4)))) tNext) (tRet (tOrV (tOp (rNeA K) (tVar 5) (tC (.str "unshare"))) (tOp (rInA K) (tTup (tCons (tVar 4) (tCons (tVar 6) tNil))) (tVar 3)))))))))
theorem run__law_open {K : PySem.W.Frag} (x : Tr × Evt) (hx : x.1.length < 100000) : Runs K (t__law_open K) [.dat (encT x.1), .dat (encE x.2), .un, .un, .un, .un, .un, .un] { nx := fun _ => (.bl (lopen (lk x.1) x.2) : Dt) = .non, rt := fun e _ => e = .bl (lopen (lk x.1) x.2) } := by
  obtain ⟨t, th, nm, tg⟩ := x
  have hx : t.length < 100000 := hx
  obtain ⟨l1, l2⟩ := lk_len t
  refine q_setTg (ev_call t (ea_cons (ev_var rfl) ea_nil) (show t.length ≤ 100000 by omega)) (tg_tup (tgs_cons tg_name (tgs_cons tg_name tgs_nil)) rfl) ?_
  refine q_setTg (ev_var rfl) (tg_tup (tgs_cons tg_name (tgs_cons tg_name (tgs_cons tg_name tgs_nil))) rfl) ?_
  generalize hS : lk t = S at l1 l2
  obtain ⟨al, sh⟩ := S
  have l2 : sh.length ≤ t.length := l2
  have ask : ∀ (ρ : List Sl) (m : Nm), ρ[5]? = some (.dat (.str nm.s)) → Ev K (tOp (rEqA K) (tVar 5) (tC (.str m.s))) ρ (.bl (decide (nm = m))) := fun ρ m h => (ev_op (ev_var h) ev_str rv_eqAS).is (by rw [Nm.dec])
  refine q_when (et_test (ask _ .acq rfl)) (fun e => ?_) fun e1 => ?_
  · have e : nm = .acq := of_decide_eq_true e
    subst e
    refine r_ret (Ev.is (ev_andV (b := (sh.filter fun p => decide (p.2 = tg)).isEmpty) (ev_op (ev_var rfl) (ev_var rfl) (rv_notind (k := .inl tg))) fun _ => ev_pairs rfl rfl rfl (by omega)) ?_) rfl
    rw [dget_I]
    show Dt.bl (!((alook al tg).map Dt.int).isSome && _) = .bl ((alook al tg).isNone && _)
    cases alook al tg <;> rfl
  refine q_when (et_test (ask _ .sha rfl)) (fun e => ?_) fun e2 => ?_
  · have e : nm = .sha := of_decide_eq_true e
    subst e
    refine r_ret (Ev.is (ev_andV (b := !decide ((th, tg) ∈ sh)) (ev_op (ev_var rfl) (ev_var rfl) (rv_notind (k := .inl tg))) fun _ => ev_op (ev_tup (ea_cons (ev_var rfl) (ea_cons (ev_var rfl) ea_nil)) (show 2 ≤ sizeLine by decide)) (ev_var rfl) (rv_notinT (p := (th, tg)))) ?_) rfl
    rw [dget_I]
    show Dt.bl (!((alook al tg).map Dt.int).isSome && _) = .bl ((alook al tg).isNone && _)
    cases alook al tg <;> rfl
  refine q_when (et_test (ask _ .rel rfl)) (fun e => ?_) fun e3 => ?_
  · have e : nm = .rel := of_decide_eq_true e
    subst e
    cases hl : alook al tg with
    | none =>
      refine r_ret (Ev.is (ev_andV (b := true) (ev_op (ev_var rfl) (ev_var rfl) (rv_ind (k := .inl tg))) fun h => ?_) ?_) rfl
      · rw [dget_I, hl] at h
        cases h
      · rw [dget_I, hl]
        show Dt.bl false = .bl (alook al tg == some th)
        rw [hl]
        rfl
    | some z =>
      refine r_ret (Ev.is (ev_andV (b := decide (z = th)) (ev_op (ev_var rfl) (ev_var rfl) (rv_ind (k := .inl tg))) fun h => ?_) ?_) rfl
      · exact ev_op (ev_dget (k := .inl tg) (f := .int z) (ev_var rfl).rd (ev_var rfl) (by rw [dget_I, hl]; rfl)) (ev_var rfl) rv_eqAI
      · rw [dget_I, hl]
        show Dt.bl (true && decide (z = th)) = .bl (alook al tg == some th)
        rw [hl, Bool.true_and]
        congr 1
  refine r_ret (Ev.is (ev_orV (b := decide ((th, tg) ∈ sh)) (ev_op (ev_var rfl) ev_str rv_neAS) fun _ => ev_op (ev_tup (ea_cons (ev_var rfl) (ea_cons (ev_var rfl) ea_nil)) (show 2 ≤ sizeLine by decide)) (ev_var rfl) (rv_inT (p := (th, tg)))) ?_) rfl
  have n1 := of_decide_eq_false e1
  have n2 := of_decide_eq_false e2
  have n3 := of_decide_eq_false e3
  have hu : (!decide (nm.s = ("unshare" : Str))) = !decide (nm = .uns) := by
    have := Nm.dec nm .uns
    rw [← this]
    rfl
  show Dt.bl ((!decide (nm.s = ("unshare" : Str))) || _) = .bl (lopen (al, sh) ⟨th, nm, tg⟩)
  rw [hu]
  cases nm <;> first | rfl | exact absurd rfl n1 | exact absurd rfl n2 | exact absurd rfl n3
theorem ok__law_open {P : Program} {w : World} {K : PySem.W.Frag} {mg : Str → Option Value} {base : Heap} (T : Txt w K mg) : Def P w K mg base "_law_open" ["events", "event"] 2 (sp__law_open K) := by
  obtain ⟨f, fd, F, gl⟩ := T.fn__law_open
  exact ⟨f, fd, gl, F.kp, FunD.bindsN F (fun _ _ _ _ _ _ us hl => match us, hl with | [_, _], _ => rfl), fn_f F sc__law_open (fun _ => rfl) (t__law_open K) (fun cdv A outer s H E hr => (pss_cons (ps_asg (pe_callD (ok__law_locks T) hr (by decide) (by rfl) (pa_cons (pv 0) pa_nil)) (pg_tup rfl (pgs_cons (pg_name (i := 2) sc__law_open.nd rfl (by first | exact Or.inl rfl | exact Or.inr rfl)) (pgs_cons (pg_name (i := 3) sc__law_open.nd rfl (by first | exact Or.inl rfl | exact Or.inr rfl)) pgs_nil)))) (pss_cons (ps_asg (pv 1) (pg_tup rfl (pgs_cons (pg_name (i := 4) sc__law_open.nd rfl (by first | exact Or.inl rfl | exact Or.inr rfl)) (pgs_cons (pg_name (i := 5) sc__law_open.nd rfl (by first | exact Or.inl rfl | exact Or.inr rfl)) (pgs_cons (pg_name (i := 6) sc__law_open.nd rfl (by first | exact Or.inl rfl | exact Or.inr rfl)) pgs_nil))))) (pss_cons (ps_if (pt_cmpR (op_eqA (hu65 hr)) (pv 5) pe_str (nomark _)) (pss_one (ps_ret (pe_and (pe_cmpR (op_notinA (hu65 hr)) (pv 6) (pv 2) (by rfl)) (pe_one (pe_cmpR (op_eqA (hu65 hr)) (pe_lockW (pe_lc (own := [("pair", 7)]) rfl sc__law_open.nd (pi_keys (pv 3)) (blkOk_by (by kernel_rfl)) (fun _ _ _ _ _ => (pg_name (i := 7) sc__law_open.nd rfl (by first | exact Or.inl rfl | exact Or.inr rfl))) (fun _ _ _ _ _ => (pts_one (pt_cmpR (op_eqA (hu65 hr)) (pe_ix ix_seq (pv 7) pe_int (fun _ _ => rfl)) (pv 6) (nomark _)))) (fun _ _ _ _ _ => (pv 7)))) (pe_lst pa_nil) (nomark _)))))) pss_nil) (pss_cons (ps_if (pt_cmpR (op_eqA (hu65 hr)) (pv 5) pe_str (nomark _)) (pss_one (ps_ret (pe_and (pe_cmpR (op_notinA (hu65 hr)) (pv 6) (pv 2) (by rfl)) (pe_one (pe_cmpR (op_notinA (hu65 hr)) (pe_tup (pa_cons (pv 4) (pa_cons (pv 6) pa_nil))) (pv 3) (by rfl)))))) pss_nil) (pss_cons (ps_if (pt_cmpR (op_eqA (hu65 hr)) (pv 5) pe_str (nomark _)) (pss_one (ps_ret (pe_and (pe_cmpR (op_inA (hu65 hr)) (pv 6) (pv 2) (by rfl)) (pe_one (pe_cmpR (op_eqA (hu65 hr)) (pe_dget (hu_of hr) (pv 2) (pv 6) (fun _ _ => rfl)) (pv 4) (nomark _)))))) pss_nil) (pss_one (ps_ret (pe_or (pe_cmpR (op_neA (hu65 hr)) (pv 5) pe_str (nomark _)) (pe_one (pe_cmpR (op_inA (hu65 hr)) (pe_tup (pa_cons (pv 4) (pa_cons (pv 6) pa_nil))) (pv 3) (by rfl)))))))))))) (by decide) (fun x hx => run__law_open x hx)⟩
end DL
namespace DL
open PySem PySem.Spec L2
theorem sc_Holds_sharing : FnScope ["self", "lock"] ["self", "lock"] (defScope (inClass s_Holds 1)) := ⟨rfl, rfl, rfl, by decide +kernel, rfl, by decide +kernel, by decide +kernel⟩
/-- what is held: locks held alone and by whom, locks shared and by whom -/
structure HS where
  al : List (Int × Int)
  sh : List (Int × List Int)
def tupI (l : List Int) : Dt := .tup (l.map .int)
def HS.D (K : PySem.W.Frag) (s : HS) : Dt := .ins (He.ga K "Holds") ["alone", "shared"] [dkI .int s.al, dkI tupI s.sh]
def HS.shr (s : HS) (k : Int) : List Int := (alook s.sh k).getD []
def HS.can (s : HS) (e : Evt) : Bool := match e.nm with
  | .acq => (alook s.al e.tg).isNone && (s.shr e.tg).isEmpty
  | .sha => (alook s.al e.tg).isNone && !(s.shr e.tg).contains e.th
  | .rel => alook s.al e.tg == some e.th
  | .uns => (s.shr e.tg).contains e.th
  | _ => true
def HS.step (s : HS) (e : Evt) : HS := match e.nm with
  | .acq => { s with al := aput s.al e.tg e.th }
  | .rel => { s with al := adrop s.al e.tg }
  | .sha => { s with sh := aput s.sh e.tg (s.shr e.tg ++ [e.th]) }
  | .uns => { s with sh := aput s.sh e.tg ((s.shr e.tg).filter fun x => decide (x ≠ e.th)) }
  | _ => s
abbrev sp_Holds_sharing (K : PySem.W.Frag) : Sp := spD K (fun x : HS × Int => [x.1.D K, .int x.2]) (fun _ => True) (fun x => tupI (x.1.shr x.2))
def t_Holds_sharing (K : PySem.W.Frag) : TS := (tRet (tDGet2 (tFld K (tVar 0) "shared") (tVar 1) (tTup tNil)))
theorem run_Holds_sharing {w : World} {K : PySem.W.Frag} {mg : Str → Option Value} (T : Txt w K mg) (x : HS × Int) (_ : True) : Runs K (t_Holds_sharing K) [.dat (x.1.D K), .dat (.int x.2)] { nx := fun _ => tupI (x.1.shr x.2) = .non, rt := fun e _ => e = tupI (x.1.shr x.2) } := by
  obtain ⟨s, k⟩ := x
  refine r_ret (Ev.is (ev_get2 (k := .inl k) (ev_fld (ev_var rfl) T.cl_Holds T.na_Holds_shared rfl).rd (ev_var rfl) (ev_tup ea_nil (by decide))) ?_) rfl
  rw [dget_I]
  unfold HS.shr
  cases alook s.sh k <;> rfl
theorem ok_Holds_sharing {P : Program} {w : World} {K : PySem.W.Frag} {mg : Str → Option Value} {base : Heap} (T : Txt w K mg) : MDef P w K mg base (He.ga K "Holds") "sharing" ["self", "lock"] 1 (sp_Holds_sharing K) := by
  obtain ⟨f, fd, M, F⟩ := T.mt_Holds_sharing
  exact ⟨f, fd, M, FunD.bindsN F (fun _ _ _ _ _ _ us hl => match us, hl with | [_, _], _ => rfl), fn_f F sc_Holds_sharing (fun _ => rfl) (t_Holds_sharing K) (fun cdv A outer s H E hr => (pss_one (ps_ret (pe_dget2 (hu_of hr) (pe_fld (pv 0) rfl) (pv 1) (pe_tup pa_nil) ⟨rfl, rfl, rfl, rfl⟩)))) (by decide) (fun x hx => run_Holds_sharing T x hx)⟩
end DL
namespace DL
open PySem PySem.Spec L2
theorem sc_Holds_can : FnScope ["self", "event", "thread", "name", "lock"] ["self", "event"] (defScope (inClass s_Holds 2)) := ⟨rfl, rfl, rfl, by decide +kernel, rfl, by decide +kernel, by decide +kernel⟩
abbrev sp_Holds_can (K : PySem.W.Frag) : Sp := spD K (fun x : HS × Evt => [x.1.D K, encE x.2]) (fun _ => True) (fun x => .bl (x.1.can x.2))
def t_Holds_can (K : PySem.W.Frag) : TS := (tSeq (tAsg (tVar 1) (gTup K 3 (gCons (gName 2) (gCons (gName 3) (gCons (gName 4) gNil))))) (tSeq (tIfS (tTest (tOp (rEqA K) (tVar 3) (tC (.str "acquire")))) (tRet (tAndV (tOp (rNotInA K) (tVar 4) (tFld K (tVar 0) "alone")) (tOp (rEqA K) (tMeth (He.ga K "Holds") "sharing" (sp_Holds_sharing K) [] E0 (tVar 0) (tCons (tVar 4) tNil)) (tTup tNil)))) tNext) (tSeq (tIfS (tTest (tOp (rEqA K) (tVar 3) (tC (.str "share")))) (tRet (tAndV (tOp (rNotInA K) (tVar 4) (tFld K (tVar 0) "alone")) (tOp (rNotInA K) (tVar 2) (tMeth (He.ga K "Holds") "sharing" (sp_Holds_sharing K) [] E0 (tVar 0) (tCons (tVar 4) tNil))))) tNext) (tSeq (tIfS (tTest (tOp (rEqA K) (tVar 3) (tC (.str "release")))) (tRet (tAndV (tOp (rInA K) (tVar 4) (tFld K (tVar 0) "alone")) (tOp (rEqA K) (tDGet (tFld K (tVar 0) "alone") (tVar 4)) (tVar 2)))) tNext) (tRet (tOrV (tOp (rNeA K) (tVar 3) (tC (.str "unshare"))) (tOp (rInA K) (tVar 2) (tMeth (He.ga K "Holds") "sharing" (sp_Holds_sharing K) [] E0 (tVar 0) (tCons (tVar 4) tNil)))))))))
theorem deq_tupI (l : List Int) : deq (tupI l) (.tup []) = l.isEmpty := by
  cases l with
  | nil => rfl
  | cons a l => rfl
theorem inF_ints (k : Int) : ∀ l : List Int, inF (.int k) (l.map .int) = l.contains k
  | [] => rfl
  | a :: l => by
    have ih := inF_ints k l
    rw [List.contains_cons]
    show ((a == k) || inF (.int k) (l.map .int)) = _
    rw [ih, BEq.comm]
theorem flat_ints : ∀ l : List Int, (l.map Dt.int).all flatD = true
  | [] => rfl
  | _ :: l => by
    rw [List.map_cons, List.all_cons, flat_ints l]
    rfl
theorem lay_ints (n : Nat) : ∀ l : List Int, lays n (l.map Dt.int) = true
  | [] => by simp [lays]
  | _ :: l => by
    rw [List.map_cons, lays, lay_ints n l]
    simp [lay]
theorem lay_tupI (l : List Int) : lay 1 (tupI l) = true := by
  unfold tupI
  rw [lay]
  exact lay_ints 0 l
theorem run_Holds_can {w : World} {K : PySem.W.Frag} {mg : Str → Option Value} (T : Txt w K mg) (x : HS × Evt) (_ : True) : Runs K (t_Holds_can K) [.dat (x.1.D K), .dat (encE x.2), .un, .un, .un] { nx := fun _ => Dt.bl (x.1.can x.2) = .non, rt := fun e _ => e = .bl (x.1.can x.2) } := by
  obtain ⟨s, th, nm, tg⟩ := x
  have alone : ∀ ρ : List Sl, ρ[0]? = some (.dat (s.D K)) → Ev K (tFld K (tVar 0) "alone") ρ (dkI .int s.al) := fun ρ h => ev_fld (ev_var h) T.cl_Holds T.na_Holds_alone rfl
  have shr : ∀ ρ : List Sl, ρ[0]? = some (.dat (s.D K)) → ρ[4]? = some (.dat (.int tg)) → Ev K (tMeth (He.ga K "Holds") "sharing" (sp_Holds_sharing K) [] E0 (tVar 0) (tCons (tVar 4) tNil)) ρ (tupI (s.shr tg)) := fun ρ h h4 => ev_meth (s, tg) (ev_var h) rfl (ea_cons (ev_var h4) ea_nil) rfl trivial
  refine q_setTg (ev_var rfl) (tg_tup (tgs_cons tg_name (tgs_cons tg_name (tgs_cons tg_name tgs_nil))) rfl) ?_
  refine q_when (et_test (ev_op (ev_var rfl) ev_str rv_eqAS)) (fun e => ?_) (fun e1 => ?_)
  · have e : nm = .acq := Nm.inj (of_decide_eq_true e)
    subst e
    refine r_ret (Ev.is (ev_andV (b := (s.shr tg).isEmpty) (ev_opR (ev_var rfl).rd (alone _ rfl).rd (rv_notind (k := .inl tg))) fun _ => (ev_op (shr _ rfl rfl) (ev_tup ea_nil (by decide)) (rv_eqD (n := 1) (m := 1) (lay_tupI _) rfl)).is (by rw [deq_tupI])) ?_) rfl
    rw [dget_I]
    show Dt.bl (!((alook s.al tg).map Dt.int).isSome && (s.shr tg).isEmpty) = .bl ((alook s.al tg).isNone && (s.shr tg).isEmpty)
    cases alook s.al tg <;> rfl
  refine q_when (et_test (ev_op (ev_var rfl) ev_str rv_eqAS)) (fun e => ?_) (fun e2 => ?_)
  · have e : nm = .sha := Nm.inj (of_decide_eq_true e)
    subst e
    refine r_ret (Ev.is (ev_andV (b := !(s.shr tg).contains th) (ev_opR (ev_var rfl).rd (alone _ rfl).rd (rv_notind (k := .inl tg))) fun _ => (ev_op (ev_var rfl) (shr _ rfl rfl) (rv_notin (.tup _) rfl (flat_ints _))).is (by rw [inF_ints])) ?_) rfl
    rw [dget_I]
    show Dt.bl (!((alook s.al tg).map Dt.int).isSome && !(s.shr tg).contains th) = .bl ((alook s.al tg).isNone && !(s.shr tg).contains th)
    cases alook s.al tg <;> rfl
  refine q_when (et_test (ev_op (ev_var rfl) ev_str rv_eqAS)) (fun e => ?_) (fun e3 => ?_)
  · have e : nm = .rel := Nm.inj (of_decide_eq_true e)
    subst e
    cases hl : alook s.al tg with
    | none =>
      refine r_ret (Ev.is (ev_andV (b := true) (ev_opR (ev_var rfl).rd (alone _ rfl).rd (rv_ind (k := .inl tg))) fun h => ?_) ?_) rfl
      · rw [dget_I, hl] at h
        cases h
      · rw [dget_I, hl]
        show Dt.bl false = .bl (alook s.al tg == some th)
        rw [hl]
        rfl
    | some z =>
      refine r_ret (Ev.is (ev_andV (b := decide (z = th)) (ev_opR (ev_var rfl).rd (alone _ rfl).rd (rv_ind (k := .inl tg))) fun h => ?_) ?_) rfl
      · exact ev_op (ev_dget (k := .inl tg) (f := .int z) (alone _ rfl).rd (ev_var rfl) (by rw [dget_I, hl]; rfl)) (ev_var rfl) rv_eqAI
      · rw [dget_I, hl]
        show Dt.bl (true && decide (z = th)) = .bl (alook s.al tg == some th)
        rw [hl, Bool.true_and]
        congr 1
  refine r_ret (Ev.is (ev_orV (b := (s.shr tg).contains th) (ev_op (ev_var rfl) ev_str rv_neAS) fun h => (ev_op (ev_var rfl) (shr _ rfl rfl) (rv_in (.tup _) rfl (flat_ints _))).is (by rw [inF_ints])) ?_) rfl
  have n1 : nm ≠ .acq := fun z => of_decide_eq_false e1 (by show nm.s = Nm.s .acq; rw [z])
  have n2 : nm ≠ .sha := fun z => of_decide_eq_false e2 (by show nm.s = Nm.s .sha; rw [z])
  have n3 : nm ≠ .rel := fun z => of_decide_eq_false e3 (by show nm.s = Nm.s .rel; rw [z])
  have hu : (!decide (nm.s = ("unshare" : Str))) = !decide (nm = .uns) := by
    have := Nm.dec nm .uns
    rw [← this]
    rfl
  rw [hu]
  cases nm <;> first | rfl | exact absurd rfl n1 | exact absurd rfl n2 | exact absurd rfl n3
theorem ok_Holds_can {P : Program} {w : World} {K : PySem.W.Frag} {mg : Str → Option Value} {base : Heap} (T : Txt w K mg) : MDef P w K mg base (He.ga K "Holds") "can" ["self", "event"] 2 (sp_Holds_can K) := by
  obtain ⟨f, fd, M, F⟩ := T.mt_Holds_can
  exact ⟨f, fd, M, FunD.bindsN F (fun _ _ _ _ _ _ us hl => match us, hl with | [_, _], _ => rfl), fn_f F sc_Holds_can (fun _ => rfl) (t_Holds_can K) (fun cdv A outer s H E hr => (pss_cons (ps_asg (pv 1) (pg_tup rfl (pgs_cons (pg_name (i := 2) sc_Holds_can.nd rfl (by first | exact Or.inl rfl | exact Or.inr rfl)) (pgs_cons (pg_name (i := 3) sc_Holds_can.nd rfl (by first | exact Or.inl rfl | exact Or.inr rfl)) (pgs_cons (pg_name (i := 4) sc_Holds_can.nd rfl (by first | exact Or.inl rfl | exact Or.inr rfl)) pgs_nil))))) (pss_cons (ps_if (pt_cmpR (op_eqA (hu65 hr)) (pv 3) (pe_gstr T.c_ACQUIRE rfl) (nomark _)) (pss_one (ps_ret (pe_and (pe_cmpR (op_notinA (hu65 hr)) (pv 4) (pe_fld (pv 0) rfl) (by rfl)) (pe_one (pe_cmpR (op_eqA (hu65 hr)) (pe_methD (pv 0) T.cl_Holds (ok_Holds_sharing T) hr (by decide) (pa_cons (pv 4) pa_nil)) (pe_tup pa_nil) (nomark _)))))) pss_nil) (pss_cons (ps_if (pt_cmpR (op_eqA (hu65 hr)) (pv 3) (pe_gstr T.c_SHARE rfl) (nomark _)) (pss_one (ps_ret (pe_and (pe_cmpR (op_notinA (hu65 hr)) (pv 4) (pe_fld (pv 0) rfl) (by rfl)) (pe_one (pe_cmpR (op_notinA (hu65 hr)) (pv 2) (pe_methD (pv 0) T.cl_Holds (ok_Holds_sharing T) hr (by decide) (pa_cons (pv 4) pa_nil)) (by rfl)))))) pss_nil) (pss_cons (ps_if (pt_cmpR (op_eqA (hu65 hr)) (pv 3) (pe_gstr T.c_RELEASE rfl) (nomark _)) (pss_one (ps_ret (pe_and (pe_cmpR (op_inA (hu65 hr)) (pv 4) (pe_fld (pv 0) rfl) (by rfl)) (pe_one (pe_cmpR (op_eqA (hu65 hr)) (pe_dget (hu_of hr) (pe_fld (pv 0) rfl) (pv 4) (fun _ _ => rfl)) (pv 2) (nomark _)))))) pss_nil) (pss_one (ps_ret (pe_or (pe_cmpR (op_neA (hu65 hr)) (pv 3) (pe_gstr T.c_UNSHARE rfl) (nomark _)) (pe_one (pe_cmpR (op_inA (hu65 hr)) (pv 2) (pe_methD (pv 0) T.cl_Holds (ok_Holds_sharing T) hr (by decide) (pa_cons (pv 4) pa_nil)) (by rfl))))))))))) (by decide) (fun x hx => run_Holds_can T x hx)⟩
end DL
namespace DL
open PySem PySem.Spec L2
theorem sc__law_free : FnScope ["events", "event", "thread", "name", "target", "known", "one"] ["events", "event"] (defScope s__law_free) := ⟨rfl, rfl, rfl, by decide +kernel, rfl, by decide +kernel, by decide +kernel⟩
def knownF (t : Tr) : List Int := t.map (·.th) ++ (t.filter fun o => decide (o.nm = .frk) || decide (o.nm = .jn)).map (·.tg)
/-- may the event come -/
def lfree (t : Tr) (e : Evt) : Bool :=
  if (!lopen (lk t) e || t.any fun o => decide (o.nm = .jn) && decide (o.tg = e.th)) = true then false
  else if e.nm = .frk then !decide (e.tg = e.th) && !(knownF t).contains e.tg
  else !decide (e.nm = .jn) || !decide (e.tg = e.th)
abbrev sp__law_free (K : PySem.W.Frag) : Sp := spD K (fun x : Tr × Evt => [encT x.1, encE x.2]) (fun x => x.1.length < 100000) (fun x => .bl (lfree x.1 x.2))
def t__law_free (K : PySem.W.Frag) : TS := (tSeq (tAsg (tVar 1) (gTup K 3 (gCons (gName 2) (gCons (gName 3) (gCons (gName 4) gNil))))) (tSeq (tIfS (tOr (tNot (tB (tCall (sp__law_open K) [] E0 (tCons (tVar 0) (tCons (tVar 1) tNil))))) (tTest (tOp (rInA K) (tTup (tCons (tC (.str "join")) (tCons (tVar 2) tNil))) (tLc (iSeq K (tVar 0)) (gName 6) tYes (tSl (rSlX K) (tVar 6) (tPart (tC (.int 1))) tNoPart) [6])))) (tRet (tC (.bl false))) tNext) (tSeq (tIfS (tTest (tOp (rEqA K) (tVar 3) (tC (.str "fork")))) (tSeq (tAsg (tOp (rAddA K) (tLc (iSeq K (tVar 0)) (gName 6) tYes (tOp (rIx K) (tVar 6) (tC (.int 0))) [6]) (tLc (iSeq K (tVar 0)) (gName 6) (tTest (tOp (rInA K) (tOp (rIx K) (tVar 6) (tC (.int 1))) (tTup (tCons (tC (.str "fork")) (tCons (tC (.str "join")) tNil))))) (tOp (rIx K) (tVar 6) (tC (.int 2))) [6])) (gName 5)) (tRet (tAndV (tOp (rNeA K) (tVar 4) (tVar 2)) (tOp (rNotInA K) (tVar 4) (tVar 5))))) tNext) (tRet (tOrV (tOp (rNeA K) (tVar 3) (tC (.str "join"))) (tOp (rNeA K) (tVar 4) (tVar 2)))))))
theorem run__law_free {K : PySem.W.Frag} (x : Tr × Evt) (hx : x.1.length < 100000) : Runs K (t__law_free K) [.dat (encT x.1), .dat (encE x.2), .un, .un, .un, .un, .un] { nx := fun _ => (.bl (lfree x.1 x.2) : Dt) = .non, rt := fun e _ => e = .bl (lfree x.1 x.2) } := by
  obtain ⟨t, th, nm, tg⟩ := x
  have hx : t.length < 100000 := hx
  refine q_setTg (ev_var rfl) (tg_tup (tgs_cons tg_name (tgs_cons tg_name (tgs_cons tg_name tgs_nil))) rfl) ?_
  refine q_when (b := !lopen (lk t) ⟨th, nm, tg⟩ || t.any fun o => decide (o.nm = .jn) && decide (o.tg = th)) (et_or (et_not (et_B (ev_call ((t, ⟨th, nm, tg⟩) : Tr × Evt) (ea_cons (ev_var rfl) (ea_cons (ev_var rfl) ea_nil)) hx))) fun _ => et_test (Ev.is (ev_op (ev_tup (ea_cons ev_str (ea_cons (ev_var rfl) ea_nil)) (show 2 ≤ sizeLine by decide)) (en_lcM encE t (fun _ => true) (fun o => .tup [.str o.nm.s, .int o.tg]) (ei_seqT (ev_var rfl)).r (fun o ho => ?_) (by unfold sizeLine; omega)).ev (rv_inD (n := 1) (m := 2) (lay_nt .jn th) ?_)) ?_)) (fun e => r_ret ev_bl ?_) fun e => ?_
  · exact ⟨_, _, fun _ h => h, tg_name, et_yes, fun _ => (ev_slT (ev_var rfl) (eo_part (i := ((1 : Nat) : Int)) ev_int) eo_no).is (congrArg Dt.tup (cutD_from _ 1))⟩
  · rw [made_all, lay]
    refine lays_all fun d hd => ?_
    obtain ⟨o, _, rfl⟩ := List.mem_map.mp hd
    exact lay_nt _ _
  · rw [made_all, List.any_map]
    refine congrArg Dt.bl (congrArg (fun f => t.any f) (funext fun o => ?_))
    exact deq_nt o.nm .jn o.tg th
  · show Dt.bl false = .bl (lfree t ⟨th, nm, tg⟩)
    unfold lfree
    rw [if_pos e]
  · refine q_when (b := decide (nm = .frk)) (et_test ((ev_op (ev_var rfl) ev_str rv_eqAS).is (congrArg Dt.bl (Nm.dec nm .frk)))) (fun e2 => ?_) fun e2 => ?_
    · have e2 : nm = .frk := of_decide_eq_true e2
      refine q_set (d := .lst ((knownF t).map .int)) (Ev.is (ev_op (en_lcM encE t (fun _ => true) (fun o => .int o.th) (ei_seqT (ev_var rfl)).r (fun o ho => ?_) (by unfold sizeLine; omega)).ev (en_lcM encE t (fun o => decide (o.nm = .frk) || decide (o.nm = .jn)) (fun o => .int o.tg) (ei_seqT (ev_var rfl)).r (fun o ho => ?_) (by unfold sizeLine; omega)).ev (rv_addL ?_)) ?_) ?_
      · exact ⟨_, _, fun _ h => h, tg_name, et_yes, fun _ => ev_th (ev_var rfl)⟩
      · refine ⟨_, _, fun _ h => h, tg_name, et_test ((ev_op (ev_nm (ev_var rfl)) (ev_tup (ea_cons ev_str (ea_cons ev_str ea_nil)) (show 2 ≤ sizeLine by decide)) (rv_in (.tup _) rfl rfl)).is ?_), fun _ => ev_tg (ev_var rfl)⟩
        cases o.nm <;> rfl
      · have h1 := made_len (fun o : Evt => decide (o.nm = .frk) || decide (o.nm = .jn)) (fun o => Dt.int o.tg) t
        rw [made_all, List.length_map]
        unfold sizeLine
        omega
      · rw [made_all]
        unfold made knownF
        rw [List.map_append, List.map_map, List.map_map]
        rfl
      · refine r_ret (ev_andV (ev_op (ev_var rfl) (ev_var rfl) rv_neAI) fun _ => ev_op (ev_var rfl) (ev_var rfl) (rv_notin (.lst _) rfl (flat_ints _))) ?_
        show Dt.bl (_ && !inF (.int tg) ((knownF t).map .int)) = .bl (lfree t ⟨th, nm, tg⟩)
        unfold lfree
        rw [if_neg (by rw [e]; decide), if_pos e2, inF_ints]
    · have n2 := of_decide_eq_false e2
      refine r_ret (ev_orV (ev_op (ev_var rfl) ev_str rv_neAS) fun _ => ev_op (ev_var rfl) (ev_var rfl) rv_neAI) ?_
      show Dt.bl (!decide (nm.s = Nm.jn.s) || _) = .bl (lfree t ⟨th, nm, tg⟩)
      unfold lfree
      rw [if_neg (by rw [e]; decide), if_neg n2, Nm.dec]
theorem ok__law_free {P : Program} {w : World} {K : PySem.W.Frag} {mg : Str → Option Value} {base : Heap} (T : Txt w K mg) : Def P w K mg base "_law_free" ["events", "event"] 3 (sp__law_free K) := by
  obtain ⟨f, fd, F, gl⟩ := T.fn__law_free
  exact ⟨f, fd, gl, F.kp, FunD.bindsN F (fun _ _ _ _ _ _ us hl => match us, hl with | [_, _], _ => rfl), fn_f F sc__law_free (fun _ => rfl) (t__law_free K) (fun cdv A outer s H E hr => (pss_cons (ps_asg (pv 1) (pg_tup rfl (pgs_cons (pg_name (i := 2) sc__law_free.nd rfl (by first | exact Or.inl rfl | exact Or.inr rfl)) (pgs_cons (pg_name (i := 3) sc__law_free.nd rfl (by first | exact Or.inl rfl | exact Or.inr rfl)) (pgs_cons (pg_name (i := 4) sc__law_free.nd rfl (by first | exact Or.inl rfl | exact Or.inr rfl)) pgs_nil))))) (pss_cons (ps_if (PW.pt (pw_or (pt_not (pt_val (pe_callD (ok__law_open T) hr (by decide) (by rfl) (pa_cons (pv 0) (pa_cons (pv 1) pa_nil))))) (pw_or1 (pt_cmpR (op_inA (hu65 hr)) (pe_tup (pa_cons pe_str (pa_cons (pv 2) pa_nil))) (pe_lc (own := [("one", 6)]) rfl sc__law_free.nd (pi_seq (pv 0)) (blkOk_by (by kernel_rfl)) (fun _ _ _ _ _ => (pg_name (i := 6) sc__law_free.nd rfl (by first | exact Or.inl rfl | exact Or.inr rfl))) (fun _ _ _ _ _ => pts_nil) (fun _ _ _ _ _ => (pe_slice sl_any (pv 6) (po_some pe_int) po_none))) (by rfl))))) (pss_one (ps_ret pe_bl)) pss_nil) (pss_cons (ps_if (pt_cmpR (op_eqA (hu65 hr)) (pv 3) pe_str (nomark _)) (pss_cons (ps_set (i := 5) sc__law_free.nd rfl (by first | exact Or.inl rfl | exact Or.inr rfl) (pe_op op_addA (pe_lc (own := [("one", 6)]) rfl sc__law_free.nd (pi_seq (pv 0)) (blkOk_by (by kernel_rfl)) (fun _ _ _ _ _ => (pg_name (i := 6) sc__law_free.nd rfl (by first | exact Or.inl rfl | exact Or.inr rfl))) (fun _ _ _ _ _ => pts_nil) (fun _ _ _ _ _ => (pe_ix ix_seq (pv 6) pe_int (fun _ _ => rfl)))) (pe_lc (own := [("one", 6)]) rfl sc__law_free.nd (pi_seq (pv 0)) (blkOk_by (by kernel_rfl)) (fun _ _ _ _ _ => (pg_name (i := 6) sc__law_free.nd rfl (by first | exact Or.inl rfl | exact Or.inr rfl))) (fun _ _ _ _ _ => (pts_one (pt_cmpR (op_inA (hu65 hr)) (pe_ix ix_seq (pv 6) pe_int (fun _ _ => rfl)) (pe_tup (pa_cons pe_str (pa_cons pe_str pa_nil))) (by rfl)))) (fun _ _ _ _ _ => (pe_ix ix_seq (pv 6) pe_int (fun _ _ => rfl)))))) (pss_one (ps_ret (pe_and (pe_cmpR (op_neA (hu65 hr)) (pv 4) (pv 2) (nomark _)) (pe_one (pe_cmpR (op_notinA (hu65 hr)) (pv 4) (pv 5) (by rfl))))))) pss_nil) (pss_one (ps_ret (pe_or (pe_cmpR (op_neA (hu65 hr)) (pv 3) pe_str (nomark _)) (pe_one (pe_cmpR (op_neA (hu65 hr)) (pv 4) (pv 2) (nomark _)))))))))) (by decide) (fun x hx => run__law_free x hx)⟩
end DL
namespace DL
open PySem PySem.Spec L2
theorem sc_Holds___init__ : FnScope ["self"] ["self"] (defScope (inClass s_Holds 0)) := ⟨rfl, rfl, rfl, by decide +kernel, rfl, by decide +kernel, by decide +kernel⟩
def sp_Holds___init__ (K : PySem.W.Frag) : Sp := fun vs H Q _ => ∃ x dx, vs = [.ref x] ∧ H x = some (.ins (He.ga K "Holds") dx []) ∧
  ∀ a1 a2 H', H a1 = none → H a2 = none → a1 ≠ a2 → H' x = some (.ins (He.ga K "Holds") dx [("alone", .ref a1), ("shared", .ref a2)]) → H' a1 = some (.dK []) → H' a2 = some (.dK []) →
    (∀ b o, b ≠ x → H b = some o → H' b = some o) → Q .non H'
def t_Holds___init__ (K : PySem.W.Frag) : TS := (tSeq (sFld K (tVar 0) tDNewK "alone") (sFld K (tVar 0) tDNewK "shared"))
theorem upd_none {H : Hp} {a b : Addr} {o : HO} (h : upd H a o b = none) : H b = none ∧ b ≠ a := by
  by_cases e : b = a
  · subst e
    rw [upd_same] at h
    cases h
  · rw [upd_ne e] at h
    exact ⟨h, e⟩
theorem run_Holds___init__ {w : World} {K : PySem.W.Frag} {mg : Str → Option Value} (T : Txt w K mg) (vs : List V) (H : Hp) (Q : VK) (E : XK) (h : sp_Holds___init__ K vs H Q E) : t_Holds___init__ K { nx := fun _ H' => Q .non H', rt := Q } (L2.start ["self"] vs) H := by
  obtain ⟨x, dx, rfl, hx, q⟩ := h
  intro a1 n1
  have n1x : x ≠ a1 := ne_of_none hx n1
  refine ⟨.ref x, rfl, x, _, dx, [], rfl, by rw [upd_ne n1x]; exact hx, T.cl_Holds, T.na_Holds_alone, by decide, ?_⟩
  intro a2 n2
  obtain ⟨n2', n2x⟩ := upd_none n2
  obtain ⟨n2'', n21⟩ := upd_none n2'
  refine ⟨.ref x, rfl, x, _, dx, _, rfl, by rw [upd_ne (Ne.symm n2x), upd_same], T.cl_Holds, T.na_Holds_shared, (by show 1 < 1000; decide), ?_⟩
  refine q a1 a2 _ n1 n2'' (Ne.symm n21) upd_same ?_ ?_ fun b o hb ho => ?_
  · rw [upd_ne (Ne.symm n1x), upd_ne (Ne.symm n21), upd_ne (Ne.symm n1x), upd_same]
  · rw [upd_ne n2x, upd_same]
  · rw [upd_ne hb, upd_ne (ne_of_none ho n2''), upd_ne hb, upd_ne (ne_of_none ho n1)]
    exact ho
theorem ok_Holds___init__ {P : Program} {w : World} {K : PySem.W.Frag} {mg : Str → Option Value} {base : Heap} (T : Txt w K mg) : CDef P w K mg base (He.ga K "Holds") "Holds" ["self"] 1 (sp_Holds___init__ K) := by
  obtain ⟨fd, F⟩ := T.in_Holds
  refine ⟨_, fd, T.mk_Holds, T.c_Holds, FunD.bindsN F (fun _ _ _ _ _ _ us hl => match us, hl with | [_], _ => rfl), FunD.ok F sc_Holds___init__ (fun vs H Q E h => ?_) (fun cdv A outer s H vs Q E hr h => ⟨t_Holds___init__ K, PSs.nox ?_, run_Holds___init__ T vs H Q E h⟩)⟩
  · obtain ⟨x, dx, rfl, _⟩ := h
    rfl
  · exact (pss_cons (ps_fld (pv 0) pe_dnewK rfl) (pss_one (ps_fld (pv 0) pe_dnewK rfl)))
end DL
namespace DL
open PySem PySem.Spec L2
theorem sc_Course_can : FnScope ["self", "event", "thread", "name", "target"] ["self", "event"] (defScope (inClass s_Course 1)) := ⟨rfl, rfl, rfl, by decide +kernel, rfl, by decide +kernel, by decide +kernel⟩
/-- a run so far: what is held, who has begun, was forked, was joined -/
structure CS where
  h : HS
  bg : List (Int × Bool)
  fk : List (Int × Bool)
  jn : List (Int × Bool)
def CS.D (K : PySem.W.Frag) (s : CS) : Dt := .ins (He.ga K "Course") ["holds", "begun", "forked", "joined"] [s.h.D K, dkI .bl s.bg, dkI .bl s.fk, dkI .bl s.jn]
def ahas {α : Type} (l : List (Int × α)) (k : Int) : Bool := (alook l k).isSome
def CS.can (s : CS) (e : Evt) : Bool := !(ahas s.jn e.th || !s.h.can e || ((decide (e.nm = .frk) || decide (e.nm = .jn)) && decide (e.tg = e.th))) &&
  (!decide (e.nm = .frk) || !(ahas s.bg e.tg || ahas s.fk e.tg || ahas s.jn e.tg))
def CS.step (s : CS) (e : Evt) : CS :=
  { h := s.h.step e, bg := aput s.bg e.th true, fk := if e.nm = .frk then aput s.fk e.tg true else s.fk, jn := if e.nm = .jn then aput s.jn e.tg true else s.jn }
abbrev sp_Course_can (K : PySem.W.Frag) : Sp := spD K (fun x : CS × Evt => [x.1.D K, encE x.2]) (fun _ => True) (fun x => .bl (x.1.can x.2))
def t_Course_can (K : PySem.W.Frag) : TS := (tSeq (tAsg (tVar 1) (gTup K 3 (gCons (gName 2) (gCons (gName 3) (gCons (gName 4) gNil))))) (tSeq (tIfS (tOr (tTest (tOp (rInA K) (tVar 2) (tFld K (tVar 0) "joined"))) (tOr (tNot (tB (tMeth (He.ga K "Holds") "can" (sp_Holds_can K) [] E0 (tFld K (tVar 0) "holds") (tCons (tVar 1) tNil)))) (tAnd (tTest (tOp (rInA K) (tVar 3) (tC (.ref (He.ga K "OF_THREADS"))))) (tTest (tOp (rEqA K) (tVar 4) (tVar 2)))))) (tRet (tC (.bl false))) tNext) (tRet (tOrV (tOp (rNeA K) (tVar 3) (tC (.str "fork"))) (tNotV (tOrV (tOp (rInA K) (tVar 4) (tFld K (tVar 0) "begun")) (tOrV (tOp (rInA K) (tVar 4) (tFld K (tVar 0) "forked")) (tOp (rInA K) (tVar 4) (tFld K (tVar 0) "joined")))))))))
theorem ahas_I {α : Type} (f : α → Dt) (l : List (Int × α)) (k : Int) : (dget (l.map fun p => (Sum.inl p.1 : Key)) (l.map fun p => f p.2) (.inl k)).isSome = ahas l k := by
  rw [dget_I]
  unfold ahas
  cases alook l k <;> rfl
theorem run_Course_can {w : World} {K : PySem.W.Frag} {mg : Str → Option Value} (T : Txt w K mg) (x : CS × Evt) (_ : True) : Runs K (t_Course_can K) [.dat (x.1.D K), .dat (encE x.2), .un, .un, .un] { nx := fun _ => Dt.bl (x.1.can x.2) = .non, rt := fun e _ => e = .bl (x.1.can x.2) } := by
  obtain ⟨s, e⟩ := x
  have fld : ∀ (f : Str) (d : Dt) (ρ : List Sl), ρ[0]? = some (.dat (s.D K)) → NoAttr K (He.ga K "Course") f → ((["holds", "begun", "forked", "joined"] : List Str).zip [s.h.D K, dkI .bl s.bg, dkI .bl s.fk, dkI .bl s.jn] : List (Str × Dt)).lookup f = some d → Ev K (tFld K (tVar 0) f) ρ d := fun f d ρ h n l => ev_fld (ev_var h) T.cl_Course n l
  refine q_setTg (ev_var rfl) (tg_tup (tgs_cons tg_name (tgs_cons tg_name (tgs_cons tg_name tgs_nil))) rfl) ?_
  have hkt : inF (.str e.nm.s) ks_OF_THREADS = (decide (e.nm = .frk) || decide (e.nm = .jn)) := by
    cases e.nm <;> decide +kernel
  have hfk : decide (e.nm.s = ("fork" : Str)) = decide (e.nm = .frk) := Nm.dec e.nm .frk
  refine q_when (EvT.is (et_or (et_test (ev_opR (ev_var rfl).rd (fld "joined" _ _ rfl T.na_Course_joined rfl).rd (rv_ind (k := .inl e.th)))) fun _ => et_or (et_not (et_B (ev_meth (s.h, e) (fld "holds" _ _ rfl T.na_Course_holds rfl) rfl (ea_cons (ev_var rfl) ea_nil) rfl trivial)))
    fun _ => et_and (et_test (ev_op (ev_var rfl) (ev_kt T.k_OF_THREADS) (rv_in (.kt _) rfl rfl))) fun _ => et_test (ev_op (ev_var rfl) (ev_var rfl) rv_eqAI)) rfl) (fun h => ?_) (fun h => ?_)
  · refine r_ret ev_bl ?_
    rw [ahas_I, hkt] at h
    show Dt.bl false = .bl (CS.can s e)
    have h' : (ahas s.jn e.th || (!s.h.can e || ((decide (e.nm = .frk) || decide (e.nm = .jn)) && decide (e.tg = e.th)))) = true := h
    unfold CS.can
    rw [Bool.or_assoc, h']
    rfl
  · rw [ahas_I, hkt] at h
    have h' : (ahas s.jn e.th || (!s.h.can e || ((decide (e.nm = .frk) || decide (e.nm = .jn)) && decide (e.tg = e.th)))) = false := h
    refine r_ret (Ev.is (ev_orV (ev_op (ev_var rfl) ev_str rv_neAS) fun _ => ev_notV (ev_orV (ev_opR (ev_var rfl).rd (fld "begun" _ _ rfl T.na_Course_begun rfl).rd (rv_ind (k := .inl e.tg))) fun _ =>
      ev_orV (ev_opR (ev_var rfl).rd (fld "forked" _ _ rfl T.na_Course_forked rfl).rd (rv_ind (k := .inl e.tg))) fun _ => ev_opR (ev_var rfl).rd (fld "joined" _ _ rfl T.na_Course_joined rfl).rd (rv_ind (k := .inl e.tg)))) ?_) rfl
    rw [ahas_I, ahas_I, ahas_I]
    show Dt.bl _ = .bl (CS.can s e)
    unfold CS.can
    rw [Bool.or_assoc (ahas s.jn e.th), h', Bool.not_false, Bool.true_and, Bool.or_assoc (ahas s.bg e.tg)]
    have : decide (e.nm.s = Str.ofString "fork") = decide (e.nm = .frk) := hfk
    rw [this]
theorem ok_Course_can {P : Program} {w : World} {K : PySem.W.Frag} {mg : Str → Option Value} {base : Heap} (T : Txt w K mg) : MDef P w K mg base (He.ga K "Course") "can" ["self", "event"] 3 (sp_Course_can K) := by
  obtain ⟨f, fd, M, F⟩ := T.mt_Course_can
  exact ⟨f, fd, M, FunD.bindsN F (fun _ _ _ _ _ _ us hl => match us, hl with | [_, _], _ => rfl), fn_f F sc_Course_can (fun _ => rfl) (t_Course_can K) (fun cdv A outer s H E hr => (pss_cons (ps_asg (pv 1) (pg_tup rfl (pgs_cons (pg_name (i := 2) sc_Course_can.nd rfl (by first | exact Or.inl rfl | exact Or.inr rfl)) (pgs_cons (pg_name (i := 3) sc_Course_can.nd rfl (by first | exact Or.inl rfl | exact Or.inr rfl)) (pgs_cons (pg_name (i := 4) sc_Course_can.nd rfl (by first | exact Or.inl rfl | exact Or.inr rfl)) pgs_nil))))) (pss_cons (ps_if (PW.pt (pw_or (pt_cmpR (op_inA (hu65 hr)) (pv 2) (pe_fld (pv 0) rfl) (by rfl)) (pw_or (pt_not (pt_val (pe_methD (pe_fld (pv 0) rfl) T.cl_Holds (ok_Holds_can T) hr (by decide) (pa_cons (pv 1) pa_nil)))) (pw_or1 (PW.pt (pw_and (pt_cmpR (op_inA (hu65 hr)) (pv 3) (pe_glob rfl T.c_OF_THREADS rfl) (by rfl)) (pw_and1 (pt_cmpR (op_eqA (hu65 hr)) (pv 4) (pv 2) (nomark _))))))))) (pss_one (ps_ret pe_bl)) pss_nil) (pss_one (ps_ret (pe_or (pe_cmpR (op_neA (hu65 hr)) (pv 3) (pe_gstr T.c_FORK rfl) (nomark _)) (pe_one (pe_not (pe_or (pe_cmpR (op_inA (hu65 hr)) (pv 4) (pe_fld (pv 0) rfl) (by rfl)) (pe_or (pe_cmpR (op_inA (hu65 hr)) (pv 4) (pe_fld (pv 0) rfl) (by rfl)) (pe_one (pe_cmpR (op_inA (hu65 hr)) (pv 4) (pe_fld (pv 0) rfl) (by rfl))))))))))))) (by decide) (fun x hx => run_Course_can T x hx)⟩
end DL
namespace DL
open PySem PySem.Spec L2
theorem sc_Course___init__ : FnScope ["self"] ["self"] (defScope (inClass s_Course 0)) := ⟨rfl, rfl, rfl, by decide +kernel, rfl, by decide +kernel, by decide +kernel⟩
/-- a course as it stands, where it may be changed -/
structure CAt (K : PySem.W.Frag) (H : Hp) (c h a1 a2 b1 b2 b3 dx dh : Addr) (s : CS) : Prop where
  c : H c = some (.ins (He.ga K "Course") dx [("holds", .ref h), ("begun", .ref b1), ("forked", .ref b2), ("joined", .ref b3)])
  h : H h = some (.ins (He.ga K "Holds") dh [("alone", .ref a1), ("shared", .ref a2)])
  al : ∃ r, H a1 = some (.dK (kvI r)) ∧ AHas K H .int s.h.al r
  sh : ∃ r, H a2 = some (.dK (kvI r)) ∧ AHas K H tupI s.h.sh r
  bg : ∃ r, H b1 = some (.dK (kvI r)) ∧ AHas K H .bl s.bg r
  fk : ∃ r, H b2 = some (.dK (kvI r)) ∧ AHas K H .bl s.fk r
  jn : ∃ r, H b3 = some (.dK (kvI r)) ∧ AHas K H .bl s.jn r
  nd : [a1, a2, b1, b2, b3].Nodup
def CS.nil : CS := ⟨⟨[], []⟩, [], [], []⟩
def sp_Course___init__ (K : PySem.W.Frag) : Sp := fun vs H Q _ => ∃ x dx, vs = [.ref x] ∧ H x = some (.ins (He.ga K "Course") dx []) ∧
  ∀ h a1 a2 b1 b2 b3 dh H', (∀ a ∈ [h, a1, a2, b1, b2, b3], H a = none) → CAt K H' x h a1 a2 b1 b2 b3 dx dh .nil → (∀ b o, b ≠ x → H b = some o → H' b = some o) → Q .non H'
def t_Course___init__ (K : PySem.W.Frag) : TS := (tSeq (sFld K (tVar 0) (tMake (He.ga K "Holds") (sp_Holds___init__ K) [] E0 tNil) "holds") (tSeq (sFld K (tVar 0) tDNewK "begun") (tSeq (sFld K (tVar 0) tDNewK "forked") (sFld K (tVar 0) tDNewK "joined"))))
theorem run_Course___init__ {w : World} {K : PySem.W.Frag} {mg : Str → Option Value} (T : Txt w K mg) (vs : List V) (H : Hp) (Q : VK) (E : XK) (hyp : sp_Course___init__ K vs H Q E) : t_Course___init__ K { nx := fun _ H' => Q .non H', rt := Q } (L2.start ["self"] vs) H := by
  obtain ⟨x, dx, rfl, hx, q⟩ := hyp
  -- self.holds = Holds()
  intro h dh nh ndh nhd
  have hxh : x ≠ h := ne_of_none hx nh
  have hxd : x ≠ dh := ne_of_none hx ndh
  refine ⟨h, dh, rfl, upd_same, fun a1 a2 H1 m1 m2 m12 k1 k2 k3 kp => ⟨rfl, ?_⟩⟩
  obtain ⟨m1', m1h⟩ := upd_none m1
  obtain ⟨m1'', m1d⟩ := upd_none m1'
  obtain ⟨m2', m2h⟩ := upd_none m2
  obtain ⟨m2'', m2d⟩ := upd_none m2'
  have s1 : ∀ b o, H b = some o → H1 b = some o := fun b o e => kp b o (ne_of_none e nh) (by rw [upd_ne (ne_of_none e nh), upd_ne (ne_of_none e ndh)]; exact e)
  refine ⟨.ref x, rfl, x, _, dx, [], rfl, s1 _ _ hx, T.cl_Course, T.na_Course_holds, by decide, ?_⟩
  have x1 : ∀ a, H a = none → a ≠ x := fun a e z => by subst z; rw [hx] at e; cases e
  -- the three dicts
  intro b1 n1
  obtain ⟨n1a, n1x⟩ := upd_none n1
  refine ⟨.ref x, rfl, x, _, dx, _, rfl, by rw [upd_ne (Ne.symm n1x), upd_same], T.cl_Course, T.na_Course_begun, (by show 1 < 1000; decide), ?_⟩
  intro b2 n2
  obtain ⟨n2a, n2x⟩ := upd_none n2
  obtain ⟨n2b, n21⟩ := upd_none n2a
  obtain ⟨n2c, _⟩ := upd_none n2b
  refine ⟨.ref x, rfl, x, _, dx, _, rfl, by rw [upd_ne (Ne.symm n2x), upd_same], T.cl_Course, T.na_Course_forked, (by show 2 < 1000; decide), ?_⟩
  intro b3 n3
  obtain ⟨n3a, n3x⟩ := upd_none n3
  obtain ⟨n3b, n32⟩ := upd_none n3a
  obtain ⟨n3c, _⟩ := upd_none n3b
  obtain ⟨n3d, n31⟩ := upd_none n3c
  obtain ⟨n3e, _⟩ := upd_none n3d
  refine ⟨.ref x, rfl, x, _, dx, _, rfl, by rw [upd_ne (Ne.symm n3x), upd_same], T.cl_Course, T.na_Course_joined, (by show 3 < 1000; decide), ?_⟩
  have old : ∀ b, H1 b = none → H b = none := fun b e => by
    cases z : H b with
    | none => rfl
    | some o => rw [s1 b o z] at e; cases e
  have hfin : ∀ b o, b ≠ x → b ≠ b1 → b ≠ b2 → b ≠ b3 → H1 b = some o → (upd (upd (upd (upd (upd (upd (upd H1 x (.ins (He.ga K "Course") dx (putF "holds" (.ref h) []))) b1 (.dK [])) x (.ins (He.ga K "Course") dx (putF "begun" (.ref b1) (putF "holds" (.ref h) [])))) b2 (.dK [])) x
      (.ins (He.ga K "Course") dx (putF "forked" (.ref b2) (putF "begun" (.ref b1) (putF "holds" (.ref h) []))))) b3 (.dK [])) x (.ins (He.ga K "Course") dx (putF "joined" (.ref b3) (putF "forked" (.ref b2) (putF "begun" (.ref b1) (putF "holds" (.ref h) [])))))) b = some o := fun b o e0 e1 e2 e3 e => by
    rw [upd_ne e0, upd_ne e3, upd_ne e0, upd_ne e2, upd_ne e0, upd_ne e1, upd_ne e0]
    exact e
  have ne1 : ∀ {b : Addr} {o : HO} {c : Addr}, H1 b = some o → H1 c = none → b ≠ c := fun e f => ne_of_none e f
  refine q h a1 a2 b1 b2 b3 dh _ (fun a ha => ?_) ⟨upd_same, hfin h _ (Ne.symm hxh) (ne1 k1 n1a) (ne1 k1 n2c) (ne1 k1 n3e) k1, ⟨[], hfin a1 _ (x1 a1 m1'') (ne1 k2 n1a) (ne1 k2 n2c) (ne1 k2 n3e) k2, .nil⟩, ⟨[], hfin a2 _ (x1 a2 m2'') (ne1 k3 n1a) (ne1 k3 n2c) (ne1 k3 n3e) k3, .nil⟩,
    ⟨[], ?_, .nil⟩, ⟨[], ?_, .nil⟩, ⟨[], ?_, .nil⟩, ?_⟩ fun b o hb ho => hfin b o hb (ne1 (s1 _ _ ho) n1a) (ne1 (s1 _ _ ho) n2c) (ne1 (s1 _ _ ho) n3e) (s1 _ _ ho)
  · simp only [List.mem_cons, List.not_mem_nil, or_false] at ha
    rcases ha with z | z | z | z | z | z
    · subst z; exact nh
    · subst z; exact m1''
    · subst z; exact m2''
    · subst z; exact old _ n1a
    · subst z; exact old _ n2c
    · subst z; exact old _ n3e
  · rw [upd_ne n1x, upd_ne (Ne.symm n31), upd_ne n1x, upd_ne (Ne.symm n21), upd_ne n1x, upd_same]
    rfl
  · rw [upd_ne n2x, upd_ne (Ne.symm n32), upd_ne n2x, upd_same]
    rfl
  · rw [upd_ne n3x, upd_same]
    rfl
  · simp only [List.nodup_cons, List.mem_cons, List.not_mem_nil, or_false, not_or, not_false_eq_true, and_true, List.nodup_nil]
    exact ⟨⟨m12, ne1 k2 n1a, ne1 k2 n2c, ne1 k2 n3e⟩, ⟨ne1 k3 n1a, ne1 k3 n2c, ne1 k3 n3e⟩, ⟨Ne.symm n21, Ne.symm n31⟩, Ne.symm n32⟩
theorem ok_Course___init__ {P : Program} {w : World} {K : PySem.W.Frag} {mg : Str → Option Value} {base : Heap} (T : Txt w K mg) : CDef P w K mg base (He.ga K "Course") "Course" ["self"] 4 (sp_Course___init__ K) := by
  obtain ⟨fd, F⟩ := T.in_Course
  refine ⟨_, fd, T.mk_Course, T.c_Course, FunD.bindsN F (fun _ _ _ _ _ _ us hl => match us, hl with | [_], _ => rfl), FunD.ok F sc_Course___init__ (fun vs H Q E h => ?_) (fun cdv A outer s H vs Q E hr h => ⟨t_Course___init__ K, PSs.nox ?_, run_Course___init__ T vs H Q E h⟩)⟩
  · obtain ⟨x, dx, rfl, _⟩ := h
    rfl
  · exact (pss_cons (ps_fld (pv 0) (pe_makeD0 (ok_Holds___init__ T) hr (by decide) (by rfl)) rfl) (pss_cons (ps_fld (pv 0) pe_dnewK rfl) (pss_cons (ps_fld (pv 0) pe_dnewK rfl) (pss_one (ps_fld (pv 0) pe_dnewK rfl)))))
end DL
namespace DL
open PySem PySem.Spec L2
theorem sc_is_tuple_of : FnScope ["length", "value"] ["length", "value"] (defScope s_is_tuple_of) := ⟨rfl, rfl, rfl, by decide +kernel, rfl, by decide +kernel, by decide +kernel⟩
def tupOfD (n : Int) : Dt → Bool
  | .tup ds => decide ((ds.length : Int) = n)
  | _ => false
abbrev sp_is_tuple_of (K : PySem.W.Frag) : Sp := spD K (fun x : Int × Dt => [.int x.1, x.2]) (fun x => plainD x.2 = true) (fun x => .bl (tupOfD x.1 x.2))
def t_is_tuple_of (K : PySem.W.Frag) : TS := (tRet (tAndV (tCB (rIsi K) (tCons (tVar 1) (tCons (tC (.ty "tuple")) tNil))) (tOp (rEqA K) (tCB (rLen K) (tCons (tVar 1) tNil)) (tVar 0))))
theorem run_is_tuple_of {K : PySem.W.Frag} (x : Int × Dt) (h : plainD x.2 = true) : Runs K (t_is_tuple_of K) [.dat (.int x.1), .dat x.2] { nx := fun _ => Dt.bl (tupOfD x.1 x.2) = .non, rt := fun e _ => e = .bl (tupOfD x.1 x.2) } := by
  obtain ⟨n, d⟩ := x
  cases hd : isTupD d with
  | false =>
    refine r_ret (Ev.is (ev_andV (b := true) (ev_isi (ev_var rfl).rd h (kit_tuple h)) fun e => absurd (hd.symm.trans e) (by decide)) ?_) rfl
    cases d <;> first | rfl | (cases hd; done)
  | true =>
    cases d <;> first | (cases hd; done) | skip
    exact r_ret (ev_andV (ev_isi (ev_var rfl).rd h (kit_tuple h)) fun _ => ev_op (ev_cb1 (ev_var rfl).rd rc_lenT) (ev_var rfl) rv_eqAI) rfl
theorem ok_is_tuple_of {P : Program} {w : World} {K : PySem.W.Frag} {mg : Str → Option Value} {base : Heap} (T : Txt w K mg) : Def P w K mg base "is_tuple_of" ["length", "value"] 1 (sp_is_tuple_of K) := by
  obtain ⟨f, fd, F, gl⟩ := T.fn_is_tuple_of
  exact ⟨f, fd, gl, F.kp, FunD.bindsN F (fun _ _ _ _ _ _ us hl => match us, hl with | [_, _], _ => rfl), fn_f F sc_is_tuple_of (fun _ => rfl) (t_is_tuple_of K) (fun cdv A outer s H E hr => (pss_one (ps_ret (pe_and (pe_callB call_isi (by rfl) T.b_isinstance (by decide +kernel) (pa_cons (pv 1) (pa_cons (pe_bltn (v := .ty "tuple") (by rfl) T.b_tuple (by decide +kernel) rfl) pa_nil))) (pe_one (pe_cmpR (op_eqA (hu65 hr)) (pe_callB call_len (by rfl) T.b_len (by decide +kernel) (pa_cons (pv 1) pa_nil)) (pv 0) (nomark _))))))) (by decide) (fun x hx => run_is_tuple_of x hx)⟩
end DL
namespace DL
open PySem PySem.Spec L2
theorem sc_is_integer : FnScope ["value"] ["value"] (defScope s_is_integer) := ⟨rfl, rfl, rfl, by decide +kernel, rfl, by decide +kernel, by decide +kernel⟩
abbrev sp_is_integer (K : PySem.W.Frag) : Sp := spD K (fun d : Dt => [d]) (fun d => plainD d = true) (fun d => .bl (isIntD d))
def t_is_integer (K : PySem.W.Frag) : TS := (tRet (tAndV (tCB (rIsi K) (tCons (tVar 0) (tCons (tC (.ty "int")) tNil))) (tNotV (tCB (rIsi K) (tCons (tVar 0) (tCons (tC (.ty "bool")) tNil))))))
theorem run_is_integer {K : PySem.W.Frag} (d : Dt) (h : plainD d = true) : Runs K (t_is_integer K) [.dat d] { nx := fun _ => Dt.bl (isIntD d) = .non, rt := fun e _ => e = .bl (isIntD d) } := by
  refine r_ret (Ev.is (ev_andV (ev_isi (ev_var rfl).rd h (kit_int h)) fun _ => ev_notV (ev_isi (ev_var rfl).rd h (kit_bool h))) ?_) rfl
  cases d <;> rfl
theorem ok_is_integer {P : Program} {w : World} {K : PySem.W.Frag} {mg : Str → Option Value} {base : Heap} (T : Txt w K mg) : Def P w K mg base "is_integer" ["value"] 1 (sp_is_integer K) := by
  obtain ⟨f, fd, F, gl⟩ := T.fn_is_integer
  exact ⟨f, fd, gl, F.kp, FunD.bindsN F (fun _ _ _ _ _ _ us hl => match us, hl with | [_], _ => rfl), fn_f F sc_is_integer (fun _ => rfl) (t_is_integer K) (fun cdv A outer s H E hr => (pss_one (ps_ret (pe_and (pe_callB call_isi (by rfl) T.b_isinstance (by decide +kernel) (pa_cons (pv 0) (pa_cons (pe_bltn (v := .ty "int") (by rfl) T.b_int (by decide +kernel) rfl) pa_nil))) (pe_one (pe_not (pe_callB call_isi (by rfl) T.b_isinstance (by decide +kernel) (pa_cons (pv 0) (pa_cons (pe_bltn (v := .ty "bool") (by rfl) T.b_bool (by decide +kernel) rfl) pa_nil))))))))) (by decide) (fun x hx => run_is_integer x hx)⟩
end DL
namespace DL
open PySem PySem.Spec L2
theorem sc_is_from : FnScope ["least", "value"] ["least", "value"] (defScope s_is_from) := ⟨rfl, rfl, rfl, by decide +kernel, rfl, by decide +kernel, by decide +kernel⟩
def fromD (n : Int) : Dt → Bool
  | .int i => decide (n ≤ i)
  | _ => false
abbrev sp_is_from (K : PySem.W.Frag) : Sp := spD K (fun x : Int × Dt => [.int x.1, x.2]) (fun x => plainD x.2 = true) (fun x => .bl (fromD x.1 x.2))
def t_is_from (K : PySem.W.Frag) : TS := (tRet (tAndV (tCall (sp_is_integer K) [] E0 (tCons (tVar 1) tNil)) (tOp (rI0 fun i j => .bl (decide (j ≤ i))) (tVar 1) (tVar 0))))
theorem run_is_from {K : PySem.W.Frag} (x : Int × Dt) (h : plainD x.2 = true) : Runs K (t_is_from K) [.dat (.int x.1), .dat x.2] { nx := fun _ => Dt.bl (fromD x.1 x.2) = .non, rt := fun e _ => e = .bl (fromD x.1 x.2) } := by
  obtain ⟨n, d⟩ := x
  cases hd : isIntD d with
  | false =>
    refine r_ret (Ev.is (ev_andV (b := true) (ev_call d (ea_cons (ev_var rfl) ea_nil) h) fun e => absurd (hd.symm.trans e) (by decide)) ?_) rfl
    cases d <;> first | rfl | (cases hd; done)
  | true =>
    cases d <;> first | (cases hd; done) | skip
    rename_i i
    exact r_ret (ev_andV (ev_call (.int i) (ea_cons (ev_var rfl) ea_nil) h) fun _ => ev_op (ev_var rfl) (ev_var rfl) rv_B0) rfl
theorem ok_is_from {P : Program} {w : World} {K : PySem.W.Frag} {mg : Str → Option Value} {base : Heap} (T : Txt w K mg) : Def P w K mg base "is_from" ["least", "value"] 2 (sp_is_from K) := by
  obtain ⟨f, fd, F, gl⟩ := T.fn_is_from
  exact ⟨f, fd, gl, F.kp, FunD.bindsN F (fun _ _ _ _ _ _ us hl => match us, hl with | [_, _], _ => rfl), fn_f F sc_is_from (fun _ => rfl) (t_is_from K) (fun cdv A outer s H E hr => (pss_one (ps_ret (pe_and (pe_callD (ok_is_integer T) hr (by decide) (by rfl) (pa_cons (pv 1) pa_nil)) (pe_one (pe_cmpR op_ge (pv 1) (pv 0) (nomark _))))))) (by decide) (fun x hx => run_is_from x hx)⟩
end DL
namespace DL
open PySem PySem.Spec L2
theorem sc_is_event : FnScope ["value"] ["value"] (defScope s_is_event) := ⟨rfl, rfl, rfl, by decide +kernel, rfl, by decide +kernel, by decide +kernel⟩
def eventD : Dt → Bool
  | .tup [a, b, c] => fromD 0 a && fromD 0 c && (isStrD b && inF b ks_NAMES)
  | _ => false
/-- plain, and so are its parts -/
def plain2 : Dt → Bool
  | .tup ds => ds.all plainD
  | d => plainD d
abbrev sp_is_event (K : PySem.W.Frag) : Sp := spD K (fun d : Dt => [d]) (fun d => plain2 d = true) (fun d => .bl (eventD d))
def t_is_event (K : PySem.W.Frag) : TS := (tSeq (tIfS (tOr (tNot (tB (tCall (sp_is_tuple_of K) [] E0 (tCons (tC (.int 3)) (tCons (tVar 0) tNil))))) (tOr (tNot (tB (tCall (sp_is_from K) [] E0 (tCons (tC (.int 0)) (tCons (tOp (rIx K) (tVar 0) (tC (.int 0))) tNil))))) (tNot (tB (tCall (sp_is_from K) [] E0 (tCons (tC (.int 0)) (tCons (tOp (rIx K) (tVar 0) (tC (.int 2))) tNil))))))) (tRet (tC (.bl false))) tNext) (tRet (tAndV (tCB (rIsi K) (tCons (tOp (rIx K) (tVar 0) (tC (.int 1))) (tCons (tC (.ty "str")) tNil))) (tOp (rInA K) (tOp (rIx K) (tVar 0) (tC (.int 1))) (tC (.ref (He.ga K "NAMES")))))))
theorem plain_of2 {d : Dt} (h : plain2 d = true) : plainD d = true := by
  cases d <;> first | rfl | exact h
theorem eventD_tup {d : Dt} (h : tupOfD 3 d = true) : ∃ a b c, d = .tup [a, b, c] := by
  cases d <;> first | (cases h; done) | skip
  rename_i ds
  have e : ((ds.length : Int) = 3) := of_decide_eq_true h
  match ds, e with
  | [a, b, c], _ => exact ⟨a, b, c, rfl⟩
theorem eventD_no {d : Dt} (h : tupOfD 3 d = false) : eventD d = false := by
  cases d <;> first | rfl | skip
  rename_i ds
  have e : ¬ ((ds.length : Int) = 3) := of_decide_eq_false h
  match ds, e with
  | [], _ => rfl
  | [_], _ => rfl
  | [_, _], _ => rfl
  | [_, _, _], e => exact absurd rfl e
  | _ :: _ :: _ :: _ :: _, _ => rfl
theorem run_is_event {w : World} {K : PySem.W.Frag} {mg : Str → Option Value} (T : Txt w K mg) (d : Dt) (h : plain2 d = true) : Runs K (t_is_event K) [.dat d] { nx := fun _ => Dt.bl (eventD d) = .non, rt := fun e _ => e = .bl (eventD d) } := by
  have hp := plain_of2 h
  cases h3 : tupOfD 3 d with
  | false =>
    refine q_when (b := true) (EvT.is (et_or (b := false) (et_not (et_B (ev_call (3, d) (ea_cons ev_int (ea_cons (ev_var rfl) ea_nil)) hp))) fun e => absurd e (by rw [h3]; decide)) (by rw [h3]; rfl)) (fun _ => r_ret ev_bl (by rw [eventD_no h3])) (fun e => absurd e (by decide))
  | true =>
    obtain ⟨a, b, c, rfl⟩ := eventD_tup h3
    have hl : ([a, b, c].all plainD) = true := h
    simp only [List.all_cons, List.all_nil, Bool.and_true, Bool.and_eq_true] at hl
    refine q_when (b := !(fromD 0 a && fromD 0 c)) (EvT.is (et_or (et_not (et_B (ev_call (3, _) (ea_cons ev_int (ea_cons (ev_var rfl) ea_nil)) rfl))) fun _ => et_or (et_not (et_B (ev_call (0, a) (ea_cons ev_int (ea_cons (ev_op (ev_var rfl) ev_int (rv_ixT rfl)) ea_nil)) hl.1)))
      fun _ => et_not (et_B (ev_call (0, c) (ea_cons ev_int (ea_cons (ev_op (ev_var rfl) ev_int (rv_ixT rfl)) ea_nil)) hl.2.2))) ?_) (fun e => ?_) (fun e => ?_)
    · rw [h3]
      cases fromD 0 a <;> rfl
    · refine r_ret ev_bl ?_
      show Dt.bl false = .bl (fromD 0 a && fromD 0 c && (isStrD b && inF b ks_NAMES))
      cases hh : fromD 0 a && fromD 0 c
      · rfl
      · rw [hh] at e; cases e
    · have hac : (fromD 0 a && fromD 0 c) = true := by
        cases hh : fromD 0 a && fromD 0 c
        · rw [hh] at e; cases e
        · rfl
      refine r_ret (ev_andV (b := inF b ks_NAMES) (ev_isi (ev_op (ev_var rfl) ev_int (rv_ixT rfl)).rd hl.2.1 (kit_str hl.2.1)) fun hs => ?_) ?_
      · refine ev_op (ev_op (ev_var rfl) ev_int (rv_ixT (f := b) rfl)) (ev_kt T.k_NAMES) (rv_in (.kt _) ?_ rfl)
        cases b <;> first | (cases hs; done) | rfl
      · show Dt.bl _ = .bl (fromD 0 a && fromD 0 c && (isStrD b && inF b ks_NAMES))
        rw [hac, Bool.true_and]
theorem ok_is_event {P : Program} {w : World} {K : PySem.W.Frag} {mg : Str → Option Value} {base : Heap} (T : Txt w K mg) : Def P w K mg base "is_event" ["value"] 3 (sp_is_event K) := by
  obtain ⟨f, fd, F, gl⟩ := T.fn_is_event
  exact ⟨f, fd, gl, F.kp, FunD.bindsN F (fun _ _ _ _ _ _ us hl => match us, hl with | [_], _ => rfl), fn_f F sc_is_event (fun _ => rfl) (t_is_event K) (fun cdv A outer s H E hr => (pss_cons (ps_if (PW.pt (pw_or (pt_not (pt_val (pe_callD (ok_is_tuple_of T) hr (by decide) (by rfl) (pa_cons pe_int (pa_cons (pv 0) pa_nil))))) (pw_or (pt_not (pt_val (pe_callD (ok_is_from T) hr (by decide) (by rfl) (pa_cons pe_int (pa_cons (pe_ix ix_seq (pv 0) pe_int (fun _ _ => rfl)) pa_nil))))) (pw_or1 (pt_not (pt_val (pe_callD (ok_is_from T) hr (by decide) (by rfl) (pa_cons pe_int (pa_cons (pe_ix ix_seq (pv 0) pe_int (fun _ _ => rfl)) pa_nil))))))))) (pss_one (ps_ret pe_bl)) pss_nil) (pss_one (ps_ret (pe_and (pe_callB call_isi (by rfl) T.b_isinstance (by decide +kernel) (pa_cons (pe_ix ix_seq (pv 0) pe_int (fun _ _ => rfl)) (pa_cons (pe_bltn (v := .ty "str") (by rfl) T.b_str (by decide +kernel) rfl) pa_nil))) (pe_one (pe_cmpR (op_inA (hu65 hr)) (pe_ix ix_seq (pv 0) pe_int (fun _ _ => rfl)) (pe_glob rfl T.c_NAMES rfl) (by rfl)))))))) (by decide) (fun x hx => run_is_event T x hx)⟩
end DL
namespace DL
open PySem PySem.Spec L2
theorem sc_Holds_do : FnScope ["self", "event", "thread", "name", "lock", "one"] ["self", "event"] (defScope (inClass s_Holds 3)) := ⟨rfl, rfl, rfl, by decide +kernel, rfl, by decide +kernel, by decide +kernel⟩
structure HAt (K : PySem.W.Frag) (H : Hp) (h a1 a2 dh : Addr) (s : HS) : Prop where
  h : H h = some (.ins (He.ga K "Holds") dh [("alone", .ref a1), ("shared", .ref a2)])
  al : ∃ r, H a1 = some (.dK (kvI r)) ∧ AHas K H .int s.al r
  sh : ∃ r, H a2 = some (.dK (kvI r)) ∧ AHas K H tupI s.sh r
  nd : a1 ≠ a2
theorem CAt.hAt {K : PySem.W.Frag} {H : Hp} {c h a1 a2 b1 b2 b3 dx dh : Addr} {s : CS} (C : CAt K H c h a1 a2 b1 b2 b3 dx dh s) : HAt K H h a1 a2 dh s.h := ⟨C.h, C.al, C.sh, fun z => by
  have := C.nd
  rw [z] at this
  simp at this⟩
theorem HAt.has {K : PySem.W.Frag} {H : Hp} {h a1 a2 dh : Addr} {s : HS} (C : HAt K H h a1 a2 dh s) : Has K H (s.D K) (.ref h) := by
  obtain ⟨r1, e1, g1⟩ := C.al
  obtain ⟨r2, e2, g2⟩ := C.sh
  exact ⟨h, dh, [.ref a1, .ref a2], rfl, C.h, rfl, _, _, rfl, g1.dk e1, _, _, rfl, g2.dk e2, rfl⟩
theorem onlyTs_ints : ∀ l : List Int, onlyTs (l.map Dt.int) = true
  | [] => by simp [onlyTs]
  | a :: l => by
    rw [List.map_cons, onlyTs, onlyTs_ints l]
    simp [onlyT]
theorem onlyT_tupI (l : List Int) : onlyT (tupI l) = true := by
  unfold tupI
  rw [onlyT]
  exact onlyTs_ints l
theorem onlyT_encE (e : Evt) : onlyT (encE e) = true := by
  unfold encE
  simp [onlyT, onlyTs]
/-- a dict is no tuple -/
theorem tups_upd {H : Hp} {p : Addr} {kvs kvs' : List (Key × V)} (h : H p = some (.dK kvs)) : ∀ a xs, H a = some (.tup xs) → upd H p (.dK kvs') a = some (.tup xs) := fun a xs e => by
  rw [upd_ne (ne_of e h (fun z => by cases z))]
  exact e
theorem AHas.stay {K : PySem.W.Frag} {H H' : Hp} {α : Type} {f : α → Dt} {l : List (Int × α)} {r : List (Int × V)} (h : AHas K H f l r) (ho : ∀ x, onlyT (f x) = true) (e : ∀ a xs, H a = some (.tup xs) → H' a = some (.tup xs)) : AHas K H' f l r := h.imp fun x v q => Has.tups e (ho x) q
/-- an event that is read -/
theorem Has.evt {K : PySem.W.Frag} {H : Hp} {e : Evt} {v : V} (h : Has K H (encE e) v) : ∃ a, v = .ref a ∧ H a = some (.tup [.int e.th, .str e.nm.s, .int e.tg]) := by
  obtain ⟨a, xs, h1, h2, v1, r1, e1, g1, v2, r2, e2, g2, v3, r3, e3, g3, e4⟩ := h
  cases g1
  cases g2
  cases g3
  cases e4
  subst e3
  subst e2
  subst e1
  exact ⟨a, h1, h2⟩
def sp_Holds_do (K : PySem.W.Frag) : Sp := fun vs H Q _ => ∃ x a1 a2 dh ev s e, vs = [.ref x, ev] ∧ HAt K H x a1 a2 dh s ∧ Has K H (encE e) ev ∧ s.can e = true ∧ s.al.length + s.sh.length ≤ 100000 ∧ (∀ k, (s.shr k).length ≤ 100000) ∧
  ∀ H', HAt K H' x a1 a2 dh (s.step e) → (∀ b o, b ≠ a1 → b ≠ a2 → H b = some o → H' b = some o) → Q .non H'
def t_Holds_do (K : PySem.W.Frag) : TS := (tSeq (tAsg (tVar 1) (gTup K 3 (gCons (gName 2) (gCons (gName 3) (gCons (gName 4) gNil))))) (tIfS (tTest (tOp (rEqA K) (tVar 3) (tC (.str "acquire")))) (sDPut (tFld K (tVar 0) "alone") (tVar 4) (tVar 2)) (tIfS (tTest (tOp (rEqA K) (tVar 3) (tC (.str "release")))) (tDrop (tDPop1 (tFld K (tVar 0) "alone") (tVar 4))) (tIfS (tTest (tOp (rEqA K) (tVar 3) (tC (.str "share")))) (sDPut (tFld K (tVar 0) "shared") (tVar 4) (tOp (rAddA K) (tMeth (He.ga K "Holds") "sharing" (sp_Holds_sharing K) [] E0 (tVar 0) (tCons (tVar 4) tNil)) (tTup (tCons (tVar 2) tNil)))) (tIfS (tTest (tOp (rEqA K) (tVar 3) (tC (.str "unshare")))) (sDPut (tFld K (tVar 0) "shared") (tVar 4) (tCB (rTupOf K) (tCons (tLc (iSeq K (tMeth (He.ga K "Holds") "sharing" (sp_Holds_sharing K) [] E0 (tVar 0) (tCons (tVar 4) tNil))) (gName 5) (tTest (tOp (rNeA K) (tVar 5) (tVar 2))) (tVar 5) [5]) tNil))) tNext)))))
theorem small5 {n : Nat} (h : n ≤ 100001) : n < sizeLine := Nat.lt_of_le_of_lt h (by decide)
theorem run_Holds_do {w : World} {K : PySem.W.Frag} {mg : Str → Option Value} (T : Txt w K mg) (vs : List V) (H : Hp) (Q : VK) (E : XK) (hyp : sp_Holds_do K vs H Q E) : t_Holds_do K { nx := fun _ H' => Q .non H', rt := Q } (L2.start ["self", "event", "thread", "name", "lock", "one"] vs) H := by
  obtain ⟨x, a1, a2, dh, ev, s, ⟨th, nm, tg⟩, rfl, C, he, hc, hz, hz2, q⟩ := hyp
  obtain ⟨t, rfl, ht⟩ := he.evt
  refine ⟨.ref t, rfl, t, _, rfl, SqT.of ht, rfl, _, _, rfl, _, _, rfl, _, _, rfl, rfl, ?_⟩
  have I : ∀ H', HAt K H' x a1 a2 dh s → Has K H' (encE ⟨th, nm, tg⟩) (.ref t) → Env K [] [] H' [.dat (s.D K), .dat (encE ⟨th, nm, tg⟩), .dat (.int th), .dat (.str nm.s), .dat (.int tg), .un] [some (.ref x), some (.ref t), some (.int th), some (.str nm.s), some (.int tg), none] := fun H' C' he' => by
    refine Env.all rfl (fun i d hd => ?_) fun i p d hd => ?_
    · match i, hd with
      | 0, hd => cases hd; exact ⟨_, rfl, C'.has⟩
      | 1, hd => cases hd; exact ⟨_, rfl, he'⟩
      | 2, hd => cases hd; exact ⟨_, rfl, rfl⟩
      | 3, hd => cases hd; exact ⟨_, rfl, rfl⟩
      | 4, hd => cases hd; exact ⟨_, rfl, rfl⟩
      | 5, hd => cases hd
      | n + 6, hd => cases hd
    · match i, hd with
      | 0, hd => cases hd
      | 1, hd => cases hd
      | 2, hd => cases hd
      | 3, hd => cases hd
      | 4, hd => cases hd
      | 5, hd => cases hd
      | n + 6, hd => cases hd
  have same : ∀ H', Same H H' → HAt K H' x a1 a2 dh s := fun H' e => by
    obtain ⟨r1, e1, g1⟩ := C.al
    obtain ⟨r2, e2, g2⟩ := C.sh
    exact ⟨e _ _ C.h, ⟨r1, e _ _ e1, g1.imp fun _ _ z => z.mono e⟩, ⟨r2, e _ _ e2, g2.imp fun _ _ z => z.mono e⟩, C.nd⟩
  have shr : Ev K (tMeth (He.ga K "Holds") "sharing" (sp_Holds_sharing K) [] E0 (tVar 0) (tCons (tVar 4) tNil)) [.dat (s.D K), .dat (encE ⟨th, nm, tg⟩), .dat (.int th), .dat (.str nm.s), .dat (.int tg), .un] (tupI (s.shr tg)) := ev_meth (s, tg) (ev_var rfl) rfl (ea_cons (ev_var rfl) ea_nil) rfl trivial
  -- the dict of locks held alone changes
  have putA : ∀ H1, Same H H1 → ∀ (r : List (Int × V)) (l' : List (Int × Int)), AHas K H1 .int l' r → HAt K (upd H1 a1 (.dK (kvI r))) x a1 a2 dh { s with al := l' } ∧ ∀ b o, b ≠ a1 → b ≠ a2 → H b = some o → upd H1 a1 (.dK (kvI r)) b = some o := fun H1 e1 r l' g => by
    have C1 := same H1 e1
    obtain ⟨r1, k1, g1⟩ := C1.al
    obtain ⟨r2, k2, g2⟩ := C1.sh
    exact ⟨⟨by rw [upd_ne (ne_of C1.h k1 (fun z => by cases z))]; exact C1.h, ⟨r, upd_same, g.stay (fun _ => rfl) (tups_upd k1)⟩, ⟨r2, by rw [upd_ne (Ne.symm C.nd)]; exact k2, g2.stay onlyT_tupI (tups_upd k1)⟩, C.nd⟩,
      fun b o h1 h2 ho => by rw [upd_ne h1]; exact e1 _ _ ho⟩
  have putS : ∀ H1, Same H H1 → ∀ (r : List (Int × V)) (l' : List (Int × List Int)), AHas K H1 tupI l' r → HAt K (upd H1 a2 (.dK (kvI r))) x a1 a2 dh { s with sh := l' } ∧ ∀ b o, b ≠ a1 → b ≠ a2 → H b = some o → upd H1 a2 (.dK (kvI r)) b = some o := fun H1 e1 r l' g => by
    have C1 := same H1 e1
    obtain ⟨r1, k1, g1⟩ := C1.al
    obtain ⟨r2, k2, g2⟩ := C1.sh
    exact ⟨⟨by rw [upd_ne (ne_of C1.h k2 (fun z => by cases z))]; exact C1.h, ⟨r1, by rw [upd_ne C.nd]; exact k1, g1.stay (fun _ => rfl) (tups_upd k2)⟩, ⟨r, upd_same, g.stay onlyT_tupI (tups_upd k2)⟩, C.nd⟩,
      fun b o h1 h2 ho => by rw [upd_ne h2]; exact e1 _ _ ho⟩
  have nn : ∀ {a b : Nm}, decide (a.s = b.s) = true → a = b := fun h => Nm.inj (of_decide_eq_true h)
  have nf : ∀ {a b : Nm}, ¬ decide (a.s = b.s) = true → a ≠ b := fun h z => h (decide_eq_true (by rw [z]))
  -- acquire
  refine (et_test (ev_op (ev_var rfl) ev_str rv_eqAS)).go (I H C he) fun H1 e1 => ?_
  refine ite2 (fun h => ?_) fun h1 => ?_
  · have h := nn (b := .acq) h
    subst h
    obtain ⟨r1, k1, g1⟩ := (same H1 e1).al
    refine ⟨.int th, rfl, .ref x, rfl, x, _, dh, _, _, rfl, e1 _ _ C.h, T.cl_Holds, T.na_Holds_alone, rfl, .int tg, rfl, a1, _, rfl, .inl ⟨_, .inl tg, k1, rfl, by rw [kvI_len, g1.len]; exact small5 (by omega), rfl⟩, ?_⟩
    rw [putK_kvI]
    obtain ⟨p1, p2⟩ := putA H1 e1 _ _ (g1.put (k := tg) (x := th) rfl)
    exact q _ p1 p2
  refine (et_test (ev_op (ev_var rfl) ev_str rv_eqAS)).go (I H1 (same H1 e1) (he.mono e1)) fun H2 e2 => ?_
  have s2 := e1.trans e2
  refine ite2 (fun h => ?_) fun h2 => ?_
  · have h := nn (b := .rel) h
    subst h
    obtain ⟨r1, k1, g1⟩ := (same H2 s2).al
    have hl := g1.look tg
    have hc' : (alook s.al tg == some th) = true := hc
    have hc2 : alook s.al tg = some th := by simpa using hc'
    rw [hc2] at hl
    obtain ⟨v, hv, _⟩ := hl
    refine ⟨.ref x, rfl, x, _, dh, _, _, rfl, s2 _ _ C.h, T.cl_Holds, T.na_Holds_alone, rfl, a1, rfl, .inl ⟨_, .inl k1⟩, .int tg, rfl, _, .inl tg, v, k1, rfl, by rw [valV_kvI]; exact hv, ?_⟩
    rw [dropK_kvI]
    obtain ⟨p1, p2⟩ := putA H2 s2 _ _ (g1.drop tg)
    exact q _ p1 p2
  refine (et_test (ev_op (ev_var rfl) ev_str rv_eqAS)).go (I H2 (same H2 s2) (he.mono s2)) fun H3 e3 => ?_
  have s3 := s2.trans e3
  refine ite2 (fun h => ?_) fun h3 => ?_
  · have h := nn (b := .sha) h
    subst h
    refine (ev_op shr (ev_tup (ea_cons (ev_var rfl) ea_nil) (by show 1 ≤ sizeLine; decide)) (rv_addT (ds := (s.shr tg).map .int) (by rw [List.length_map]; have := hz2 tg; exact Nat.le_of_lt (small5 (by simp; omega))))).go (I H3 (same H3 s3) (he.mono s3)) fun v H4 e4 hv => ?_
    have s4 := s3.trans e4
    obtain ⟨r2, k2, g2⟩ := (same H4 s4).sh
    refine ⟨.ref x, rfl, x, _, dh, _, _, rfl, s4 _ _ C.h, T.cl_Holds, T.na_Holds_shared, rfl, .int tg, rfl, a2, _, rfl, .inl ⟨_, .inl tg, k2, rfl, by rw [kvI_len, g2.len]; exact small5 (by omega), rfl⟩, ?_⟩
    rw [putK_kvI]
    have hv' : Has K H4 (tupI (s.shr tg ++ [th])) v := by
      unfold tupI
      rw [List.map_append]
      exact hv
    obtain ⟨p1, p2⟩ := putS H4 s4 _ _ (g2.put (k := tg) hv')
    exact q _ p1 p2
  refine (et_test (ev_op (ev_var rfl) ev_str rv_eqAS)).go (I H3 (same H3 s3) (he.mono s3)) fun H4 e4 => ?_
  have s4 := s3.trans e4
  refine ite2 (fun h => ?_) fun h4 => ?_
  · have h := nn (b := .uns) h
    subst h
    have hcomp : EvN K (tLc (iSeq K (tMeth (He.ga K "Holds") "sharing" (sp_Holds_sharing K) [] E0 (tVar 0) (tCons (tVar 4) tNil))) (gName 5) (tTest (tOp (rNeA K) (tVar 5) (tVar 2))) (tVar 5) [5])
        [.dat (s.D K), .dat (encE ⟨th, .uns, tg⟩), .dat (.int th), .dat (.str Nm.uns.s), .dat (.int tg), .un] (.lst (made (fun z => !decide (z = th)) .int (s.shr tg))) :=
      en_lc (fun _ z => .int z) (s.shr tg) _ _ ((ei_seqT shr).r.is (by rw [mapIdx_map])) (fun i z hi => ⟨⟨[5], _, by simp, tg_name, et_test (ev_op (ev_var rfl) (ev_var rfl) rv_neAI), fun _ => ev_var rfl⟩⟩) (by have := hz2 tg; exact small5 (by omega))
    refine (ev_cb1 hcomp.ev.rd rc_tupL).go (I H4 (same H4 s4) (he.mono s4)) fun v H5 e5 hv => ?_
    have s5 := s4.trans e5
    obtain ⟨r2, k2, g2⟩ := (same H5 s5).sh
    refine ⟨.ref x, rfl, x, _, dh, _, _, rfl, s5 _ _ C.h, T.cl_Holds, T.na_Holds_shared, rfl, .int tg, rfl, a2, _, rfl, .inl ⟨_, .inl tg, k2, rfl, by rw [kvI_len, g2.len]; exact small5 (by omega), rfl⟩, ?_⟩
    rw [putK_kvI]
    have hv' : Has K H5 (tupI ((s.shr tg).filter fun z => decide (z ≠ th))) v := by
      have : (fun z : Int => decide (z ≠ th)) = fun z => !decide (z = th) := by
        funext z
        simp
      unfold tupI
      rw [this]
      exact hv
    obtain ⟨p1, p2⟩ := putS H5 s5 _ _ (g2.put (k := tg) hv')
    exact q _ p1 p2
  have n1 : nm ≠ .acq := nf (b := .acq) h1
  have n2 : nm ≠ .rel := nf (b := .rel) h2
  have n3 : nm ≠ .sha := nf (b := .sha) h3
  have n4 : nm ≠ .uns := nf (b := .uns) h4
  have hs : s.step ⟨th, nm, tg⟩ = s := by
    cases nm <;> first | rfl | exact absurd rfl n1 | exact absurd rfl n2 | exact absurd rfl n3 | exact absurd rfl n4
  refine q H4 (by rw [hs]; exact same H4 s4) fun b o _ _ ho => s4 _ _ ho
theorem ok_Holds_do {P : Program} {w : World} {K : PySem.W.Frag} {mg : Str → Option Value} {base : Heap} (T : Txt w K mg) : MDef P w K mg base (He.ga K "Holds") "do" ["self", "event"] 6 (sp_Holds_do K) := by
  obtain ⟨f, fd, M, F⟩ := T.mt_Holds_do
  refine ⟨f, fd, M, FunD.bindsN F (fun _ _ _ _ _ _ us hl => match us, hl with | [_, _], _ => rfl), FunD.ok F sc_Holds_do (fun vs H Q E h => ?_) (fun cdv A outer s H vs Q E hr h => ⟨t_Holds_do K, PSs.nox ?_, run_Holds_do T vs H Q E h⟩)⟩
  · obtain ⟨_, _, _, _, _, _, _, rfl, _⟩ := h
    rfl
  · exact (pss_cons (ps_asg (pv 1) (pg_tup rfl (pgs_cons (pg_name (i := 2) sc_Holds_do.nd rfl (by first | exact Or.inl rfl | exact Or.inr rfl)) (pgs_cons (pg_name (i := 3) sc_Holds_do.nd rfl (by first | exact Or.inl rfl | exact Or.inr rfl)) (pgs_cons (pg_name (i := 4) sc_Holds_do.nd rfl (by first | exact Or.inl rfl | exact Or.inr rfl)) pgs_nil))))) (pss_one (ps_if (pt_cmpR (op_eqA (hu65 hr)) (pv 3) (pe_gstr T.c_ACQUIRE rfl) (nomark _)) (pss_one (ps_dput (hu_of hr) (pe_fld (pv 0) rfl) (pv 4) (pv 2) rfl)) (pss_one (ps_if (pt_cmpR (op_eqA (hu65 hr)) (pv 3) (pe_gstr T.c_RELEASE rfl) (nomark _)) (pss_one (ps_expr (pe_dpop1 (pe_fld (pv 0) rfl) (pv 4) ⟨rfl, rfl, rfl, rfl⟩))) (pss_one (ps_if (pt_cmpR (op_eqA (hu65 hr)) (pv 3) (pe_gstr T.c_SHARE rfl) (nomark _)) (pss_one (ps_dput (hu_of hr) (pe_fld (pv 0) rfl) (pv 4) (pe_op op_addA (pe_methD (pv 0) T.cl_Holds (ok_Holds_sharing T) hr (by decide) (pa_cons (pv 4) pa_nil)) (pe_tup (pa_cons (pv 2) pa_nil))) rfl)) (pss_one (ps_if (pt_cmpR (op_eqA (hu65 hr)) (pv 3) (pe_gstr T.c_UNSHARE rfl) (nomark _)) (pss_one (ps_dput (hu_of hr) (pe_fld (pv 0) rfl) (pv 4) (pe_callTy call_tuple_of (by rfl) T.b_tuple (by decide +kernel) (pa_cons (pe_lc (own := [("one", 5)]) rfl sc_Holds_do.nd (pi_seq (pe_methD (pv 0) T.cl_Holds (ok_Holds_sharing T) hr (by decide) (pa_cons (pv 4) pa_nil))) (blkOk_by (by kernel_rfl)) (fun _ _ _ _ _ => (pg_name (i := 5) sc_Holds_do.nd rfl (by first | exact Or.inl rfl | exact Or.inr rfl))) (fun _ _ _ _ _ => (pts_one (pt_cmpR (op_neA (hu65 hr)) (pv 5) (pv 2) (nomark _)))) (fun _ _ _ _ _ => (pv 5))) pa_nil)) rfl)) pss_nil)))))))))
end DL
namespace DL
open PySem PySem.Spec L2
theorem sc_Course_do : FnScope ["self", "event", "thread", "name", "target"] ["self", "event"] (defScope (inClass s_Course 2)) := ⟨rfl, rfl, rfl, by decide +kernel, rfl, by decide +kernel, by decide +kernel⟩
def CS.small (s : CS) (n : Nat) : Prop := s.h.al.length + s.h.sh.length ≤ n ∧ (∀ k, (s.h.shr k).length ≤ n) ∧ s.bg.length ≤ n ∧ s.fk.length ≤ n ∧ s.jn.length ≤ n
theorem CAt.same {K : PySem.W.Frag} {H H' : Hp} {c h a1 a2 b1 b2 b3 dx dh : Addr} {s : CS} (C : CAt K H c h a1 a2 b1 b2 b3 dx dh s) (e : Same H H') : CAt K H' c h a1 a2 b1 b2 b3 dx dh s := by
  obtain ⟨r1, e1, g1⟩ := C.al
  obtain ⟨r2, e2, g2⟩ := C.sh
  obtain ⟨r3, e3, g3⟩ := C.bg
  obtain ⟨r4, e4, g4⟩ := C.fk
  obtain ⟨r5, e5, g5⟩ := C.jn
  exact ⟨e _ _ C.c, e _ _ C.h, ⟨r1, e _ _ e1, g1.imp fun _ _ z => z.mono e⟩, ⟨r2, e _ _ e2, g2.imp fun _ _ z => z.mono e⟩, ⟨r3, e _ _ e3, g3.imp fun _ _ z => z.mono e⟩, ⟨r4, e _ _ e4, g4.imp fun _ _ z => z.mono e⟩, ⟨r5, e _ _ e5, g5.imp fun _ _ z => z.mono e⟩, C.nd⟩
theorem CAt.has {K : PySem.W.Frag} {H : Hp} {c h a1 a2 b1 b2 b3 dx dh : Addr} {s : CS} (C : CAt K H c h a1 a2 b1 b2 b3 dx dh s) : Has K H (s.D K) (.ref c) := by
  obtain ⟨r3, e3, g3⟩ := C.bg
  obtain ⟨r4, e4, g4⟩ := C.fk
  obtain ⟨r5, e5, g5⟩ := C.jn
  exact ⟨c, dx, [.ref h, .ref b1, .ref b2, .ref b3], rfl, C.c, rfl, _, _, rfl, C.hAt.has, _, _, rfl, g3.dk e3, _, _, rfl, g4.dk e4, _, _, rfl, g5.dk e5, rfl⟩
def sp_Course_do (K : PySem.W.Frag) : Sp := fun vs H Q _ => ∃ x h a1 a2 b1 b2 b3 dx dh ev s e, vs = [.ref x, ev] ∧ CAt K H x h a1 a2 b1 b2 b3 dx dh s ∧ Has K H (encE e) ev ∧ s.can e = true ∧ s.small 100000 ∧
  ∀ H', CAt K H' x h a1 a2 b1 b2 b3 dx dh (s.step e) → (∀ b o, b ∉ [a1, a2, b1, b2, b3] → H b = some o → H' b = some o) → Q .non H'
def t_Course_do (K : PySem.W.Frag) : TS := (tSeq (tAsg (tVar 1) (gTup K 3 (gCons (gName 2) (gCons (gName 3) (gCons (gName 4) gNil))))) (tSeq (tDrop (tMeth (He.ga K "Holds") "do" (sp_Holds_do K) [] E0 (tFld K (tVar 0) "holds") (tCons (tVar 1) tNil))) (tSeq (sDPut (tFld K (tVar 0) "begun") (tVar 2) (tC (.bl true))) (tIfS (tTest (tOp (rEqA K) (tVar 3) (tC (.str "fork")))) (sDPut (tFld K (tVar 0) "forked") (tVar 4) (tC (.bl true))) (tIfS (tTest (tOp (rEqA K) (tVar 3) (tC (.str "join")))) (sDPut (tFld K (tVar 0) "joined") (tVar 4) (tC (.bl true))) tNext)))))
theorem CS.can_h {s : CS} {e : Evt} (h : s.can e = true) : s.h.can e = true := by
  unfold CS.can at h
  cases hh : s.h.can e
  · rw [hh] at h
    simp at h
  · rfl
theorem run_Course_do {w : World} {K : PySem.W.Frag} {mg : Str → Option Value} (T : Txt w K mg) (vs : List V) (H : Hp) (Q : VK) (E : XK) (hyp : sp_Course_do K vs H Q E) : t_Course_do K { nx := fun _ H' => Q .non H', rt := Q } (L2.start ["self", "event", "thread", "name", "target"] vs) H := by
  obtain ⟨x, h, a1, a2, b1, b2, b3, dx, dh, ev, s, ⟨th, nm, tg⟩, rfl, C, he, hc, ⟨z1, z2, z3, z4, z5⟩, q⟩ := hyp
  obtain ⟨t, rfl, ht⟩ := he.evt
  refine ⟨.ref t, rfl, t, _, rfl, SqT.of ht, rfl, _, _, rfl, _, _, rfl, _, _, rfl, rfl, ?_⟩
  have nd := C.nd
  simp only [List.nodup_cons, List.mem_cons, List.not_mem_nil, or_false, not_or, not_false_eq_true, and_true, List.nodup_nil] at nd
  obtain ⟨⟨n12, n13, n14, n15⟩, ⟨n23, n24, n25⟩, ⟨n34, n35⟩, n45⟩ := nd
  -- self.holds.do(event)
  refine ⟨.ref x, rfl, x, _, dx, _, _, rfl, C.c, T.cl_Course, T.na_Course_holds, rfl, h, dh, _, rfl, C.h, rfl, .ref t, rfl, ?_⟩
  refine ⟨h, a1, a2, dh, .ref t, s.h, ⟨th, nm, tg⟩, rfl, C.hAt, he, s.can_h hc, z1, z2, fun H1 C1 k1 => ?_⟩
  obtain ⟨r1, e1, g1⟩ := C.al
  obtain ⟨r2, e2, g2⟩ := C.sh
  obtain ⟨r3, e3, g3⟩ := C.bg
  obtain ⟨r4, e4, g4⟩ := C.fk
  obtain ⟨r5, e5, g5⟩ := C.jn
  have nx : ∀ {a : Addr} {kvs : List (Key × V)}, H a = some (.dK kvs) → x ≠ a := fun e => ne_of C.c e (fun z => by cases z)
  have tup1 : ∀ a xs, H a = some (.tup xs) → H1 a = some (.tup xs) := fun a xs e => k1 a _ (ne_of e e1 (fun z => by cases z)) (ne_of e e2 (fun z => by cases z)) e
  have c1 : H1 x = some (.ins (He.ga K "Course") dx [("holds", .ref h), ("begun", .ref b1), ("forked", .ref b2), ("joined", .ref b3)]) := k1 x _ (nx e1) (nx e2) C.c
  have e31 : H1 b1 = some (.dK (kvI r3)) := k1 b1 _ (Ne.symm n13) (Ne.symm n23) e3
  have e41 : H1 b2 = some (.dK (kvI r4)) := k1 b2 _ (Ne.symm n14) (Ne.symm n24) e4
  have e51 : H1 b3 = some (.dK (kvI r5)) := k1 b3 _ (Ne.symm n15) (Ne.symm n25) e5
  -- self.begun[thread] = True
  refine ⟨.ref x, rfl, x, _, dx, _, _, rfl, c1, T.cl_Course, T.na_Course_begun, rfl, .int th, rfl, b1, _, rfl, .inl ⟨_, .inl th, e31, rfl, by rw [kvI_len, g3.len]; exact small5 (by omega), rfl⟩, ?_⟩
  rw [putK_kvI]
  have g3' : AHas K H .bl (aput s.bg th true) (aput r3 th (.bl true)) := g3.put rfl
  -- the heap so far
  have up : ∀ {p : Addr} {k k' : List (Key × V)} {G : Hp}, G p = some (.dK k) → ∀ a xs, G a = some (.tup xs) → upd G p (.dK k') a = some (.tup xs) := fun e => tups_upd e
  have fin : ∀ (H2 : Hp) (fk' jn' : List (Int × Bool)) (r4' r5' : List (Int × V)), (∀ a xs, H a = some (.tup xs) → H2 a = some (.tup xs)) → H2 x = some (.ins (He.ga K "Course") dx [("holds", .ref h), ("begun", .ref b1), ("forked", .ref b2), ("joined", .ref b3)]) →
      HAt K H2 h a1 a2 dh (s.h.step ⟨th, nm, tg⟩) → H2 b1 = some (.dK (kvI (aput r3 th (.bl true)))) → H2 b2 = some (.dK (kvI r4')) → H2 b3 = some (.dK (kvI r5')) → AHas K H .bl fk' r4' → AHas K H .bl jn' r5' →
      CAt K H2 x h a1 a2 b1 b2 b3 dx dh ⟨s.h.step ⟨th, nm, tg⟩, aput s.bg th true, fk', jn'⟩ := fun H2 fk' jn' r4' r5' tp cx hh q1 q2 q3 l4 l5 =>
    ⟨cx, hh.h, hh.al, hh.sh, ⟨_, q1, g3'.stay (fun _ => rfl) tp⟩, ⟨_, q2, l4.stay (fun _ => rfl) tp⟩, ⟨_, q3, l5.stay (fun _ => rfl) tp⟩, C.nd⟩
  have hstay : ∀ {G : Hp} {p : Addr} {k k' : List (Key × V)}, HAt K G h a1 a2 dh (s.h.step ⟨th, nm, tg⟩) → G p = some (.dK k) → p ≠ a1 → p ≠ a2 → HAt K (upd G p (.dK k')) h a1 a2 dh (s.h.step ⟨th, nm, tg⟩) := fun hh hp n1 n2 => by
    obtain ⟨u1, f1, m1⟩ := hh.al
    obtain ⟨u2, f2, m2⟩ := hh.sh
    exact ⟨by rw [upd_ne (ne_of hh.h hp (fun z => by cases z))]; exact hh.h, ⟨u1, by rw [upd_ne (Ne.symm n1)]; exact f1, m1.stay (fun _ => rfl) (up hp)⟩, ⟨u2, by rw [upd_ne (Ne.symm n2)]; exact f2, m2.stay onlyT_tupI (up hp)⟩, hh.nd⟩
  have C2 := hstay (k' := kvI (aput r3 th (.bl true))) C1 e31 (Ne.symm n13) (Ne.symm n23)
  generalize hG : upd H1 b1 (.dK (kvI (aput r3 th (.bl true)))) = H2 at C2 ⊢
  have tup2 : ∀ a xs, H a = some (.tup xs) → H2 a = some (.tup xs) := fun a xs e => by rw [← hG]; exact up e31 a xs (tup1 a xs e)
  have x1 : x ≠ b1 := nx e3
  have c2 : H2 x = some (.ins (He.ga K "Course") dx [("holds", .ref h), ("begun", .ref b1), ("forked", .ref b2), ("joined", .ref b3)]) := by rw [← hG, upd_ne x1]; exact c1
  have e32 : H2 b1 = some (.dK (kvI (aput r3 th (.bl true)))) := by rw [← hG, upd_same]
  have e42 : H2 b2 = some (.dK (kvI r4)) := by rw [← hG, upd_ne (Ne.symm n34)]; exact e41
  have e52 : H2 b3 = some (.dK (kvI r5)) := by rw [← hG, upd_ne (Ne.symm n35)]; exact e51
  have k2 : ∀ b o, b ∉ [a1, a2, b1, b2, b3] → H b = some o → H2 b = some o := fun b o hb ho => by
    simp only [List.mem_cons, List.not_mem_nil, or_false, not_or] at hb
    rw [← hG, upd_ne hb.2.2.1]
    exact k1 b o hb.1 hb.2.1 ho
  have I : Env K [] [] H2 [.un, .un, .un, .dat (.str nm.s), .un] [some (.ref x), some (.ref t), some (.int th), some (.str nm.s), some (.int tg)] := by
    refine Env.all rfl (fun i d hd => ?_) fun i p d hd => ?_
    · match i, hd with
      | 0, hd => cases hd
      | 1, hd => cases hd
      | 2, hd => cases hd
      | 3, hd => cases hd; exact ⟨_, rfl, rfl⟩
      | 4, hd => cases hd
      | n + 5, hd => cases hd
    · match i, hd with
      | 0, hd => cases hd
      | 1, hd => cases hd
      | 2, hd => cases hd
      | 3, hd => cases hd
      | 4, hd => cases hd
      | n + 5, hd => cases hd
  have nn : ∀ {a b : Nm}, decide (a.s = b.s) = true → a = b := fun h => Nm.inj (of_decide_eq_true h)
  have nf : ∀ {a b : Nm}, ¬ decide (a.s = b.s) = true → a ≠ b := fun h z => h (decide_eq_true (by rw [z]))
  have dm : ∀ {G : Hp}, Same H2 G → (∀ a xs, H a = some (.tup xs) → G a = some (.tup xs)) := fun e a xs y => e _ _ (tup2 a xs y)
  have hm : ∀ {G : Hp}, Same H2 G → HAt K G h a1 a2 dh (s.h.step ⟨th, nm, tg⟩) := fun e => by
    obtain ⟨u1, f1, m1⟩ := C2.al
    obtain ⟨u2, f2, m2⟩ := C2.sh
    exact ⟨e _ _ C2.h, ⟨u1, e _ _ f1, m1.imp fun _ _ z => z.mono e⟩, ⟨u2, e _ _ f2, m2.imp fun _ _ z => z.mono e⟩, C2.nd⟩
  refine (et_test (ev_op (ev_var rfl) ev_str rv_eqAS)).go I fun H3 s3 => ?_
  refine ite2 (fun hf => ?_) fun hf => ?_
  · have hf := nn (b := .frk) hf
    subst hf
    refine ⟨.ref x, rfl, x, _, dx, _, _, rfl, s3 _ _ c2, T.cl_Course, T.na_Course_forked, rfl, .int tg, rfl, b2, _, rfl, .inl ⟨_, .inl tg, s3 _ _ e42, rfl, by rw [kvI_len, g4.len]; exact small5 (by omega), rfl⟩, ?_⟩
    rw [putK_kvI]
    refine q _ (fin _ _ _ _ r5 (fun a xs y => up (s3 _ _ e42) a xs (dm s3 a xs y)) (by rw [upd_ne (nx e4)]; exact s3 _ _ c2) (hstay (hm s3) (s3 _ _ e42) (Ne.symm n14) (Ne.symm n24)) (by rw [upd_ne n34]; exact s3 _ _ e32) upd_same (by rw [upd_ne (Ne.symm n45)]; exact s3 _ _ e52) (g4.put (k := tg) (x := true) rfl) g5) fun b o hb ho => ?_
    have hb' := hb
    simp only [List.mem_cons, List.not_mem_nil, or_false, not_or] at hb'
    rw [upd_ne hb'.2.2.2.1]
    exact s3 _ _ (k2 b o hb ho)
  have nfk : nm ≠ .frk := nf (b := .frk) hf
  refine (et_test (ev_op (ev_var rfl) ev_str rv_eqAS)).go (I.mono s3) fun H4 s4 => ?_
  have s24 := s3.trans s4
  refine ite2 (fun hj => ?_) fun hj => ?_
  · have hj := nn (b := .jn) hj
    subst hj
    refine ⟨.ref x, rfl, x, _, dx, _, _, rfl, s24 _ _ c2, T.cl_Course, T.na_Course_joined, rfl, .int tg, rfl, b3, _, rfl, .inl ⟨_, .inl tg, s24 _ _ e52, rfl, by rw [kvI_len, g5.len]; exact small5 (by omega), rfl⟩, ?_⟩
    rw [putK_kvI]
    refine q _ (fin _ _ _ r4 _ (fun a xs y => up (s24 _ _ e52) a xs (dm s24 a xs y)) (by rw [upd_ne (nx e5)]; exact s24 _ _ c2) (hstay (hm s24) (s24 _ _ e52) (Ne.symm n15) (Ne.symm n25)) (by rw [upd_ne n35]; exact s24 _ _ e32) (by rw [upd_ne n45]; exact s24 _ _ e42) upd_same g4 (g5.put (k := tg) (x := true) rfl)) fun b o hb ho => ?_
    have hb' := hb
    simp only [List.mem_cons, List.not_mem_nil, or_false, not_or] at hb'
    rw [upd_ne hb'.2.2.2.2]
    exact s24 _ _ (k2 b o hb ho)
  have njn : nm ≠ .jn := nf (b := .jn) hj
  have hs : s.step ⟨th, nm, tg⟩ = ⟨s.h.step ⟨th, nm, tg⟩, aput s.bg th true, s.fk, s.jn⟩ := by
    unfold CS.step
    simp only [if_neg nfk, if_neg njn]
  refine q H4 (by rw [hs]; exact fin H4 _ _ r4 r5 (dm s24) (s24 _ _ c2) (hm s24) (s24 _ _ e32) (s24 _ _ e42) (s24 _ _ e52) g4 g5) fun b o hb ho => s24 _ _ (k2 b o hb ho)
theorem ok_Course_do {P : Program} {w : World} {K : PySem.W.Frag} {mg : Str → Option Value} {base : Heap} (T : Txt w K mg) : MDef P w K mg base (He.ga K "Course") "do" ["self", "event"] 7 (sp_Course_do K) := by
  obtain ⟨f, fd, M, F⟩ := T.mt_Course_do
  refine ⟨f, fd, M, FunD.bindsN F (fun _ _ _ _ _ _ us hl => match us, hl with | [_, _], _ => rfl), FunD.ok F sc_Course_do (fun vs H Q E h => ?_) (fun cdv A outer s H vs Q E hr h => ⟨t_Course_do K, PSs.nox ?_, run_Course_do T vs H Q E h⟩)⟩
  · obtain ⟨_, _, _, _, _, _, _, _, _, _, _, _, rfl, _⟩ := h
    rfl
  · exact (pss_cons (ps_asg (pv 1) (pg_tup rfl (pgs_cons (pg_name (i := 2) sc_Course_do.nd rfl (by first | exact Or.inl rfl | exact Or.inr rfl)) (pgs_cons (pg_name (i := 3) sc_Course_do.nd rfl (by first | exact Or.inl rfl | exact Or.inr rfl)) (pgs_cons (pg_name (i := 4) sc_Course_do.nd rfl (by first | exact Or.inl rfl | exact Or.inr rfl)) pgs_nil))))) (pss_cons (ps_expr (pe_methD (pe_fld (pv 0) rfl) T.cl_Holds (ok_Holds_do T) hr (by decide) (pa_cons (pv 1) pa_nil))) (pss_cons (ps_dput (hu_of hr) (pe_fld (pv 0) rfl) (pv 2) pe_bl rfl) (pss_one (ps_if (pt_cmpR (op_eqA (hu65 hr)) (pv 3) (pe_gstr T.c_FORK rfl) (nomark _)) (pss_one (ps_dput (hu_of hr) (pe_fld (pv 0) rfl) (pv 4) pe_bl rfl)) (pss_one (ps_if (pt_cmpR (op_eqA (hu65 hr)) (pv 3) (pe_gstr T.c_JOIN rfl) (nomark _)) (pss_one (ps_dput (hu_of hr) (pe_fld (pv 0) rfl) (pv 4) pe_bl rfl)) pss_nil)))))))
end DL
namespace DL
open PySem PySem.Spec L2
theorem sc_trace_fault : FnScope ["value", "course", "index", "event"] ["value"] (defScope s_trace_fault) := ⟨rfl, rfl, rfl, by decide +kernel, rfl, by decide +kernel, by decide +kernel⟩
def cst (t : Tr) : CS := t.foldl CS.step CS.nil
theorem cst_snoc (t : Tr) (e : Evt) : cst (t ++ [e]) = (cst t).step e := by
  unfold cst
  rw [List.foldl_append]
  rfl
/-- the first place where an event is not possible -/
def fb : CS → Nat → Tr → Option Nat
  | _, _, [] => none
  | s, i, e :: r => if s.can e = true then fb (s.step e) (i + 1) r else some i
def faultOf (t : Tr) : Option Nat := fb .nil 0 t
theorem alook_aput {α : Type} (l : List (Int × α)) (k j : Int) (v : α) : alook (aput l k v) j = if j = k then some v else alook l j := by
  have h1 : ∀ l : List (Int × α), alook (l.map fun p => if p.1 = k then (p.1, v) else p) j = (alook l j).map fun x => if j = k then v else x := fun l => by
    induction l with
    | nil => rfl
    | cons p l ih =>
      unfold alook at *
      rw [List.map_cons, List.find?_cons, List.find?_cons]
      by_cases e : p.1 = k
      · rw [if_pos e]
        by_cases e2 : p.1 = j
        · simp only [e2, decide_true]
          simp [e2.symm.trans e]
        · simp only [e2, decide_false]
          exact ih
      · rw [if_neg e]
        by_cases e2 : p.1 = j
        · simp only [e2, decide_true]
          have : ¬ j = k := fun z => e (e2.trans z)
          simp [this]
        · simp only [e2, decide_false]
          exact ih
  have h2 : ∀ l : List (Int × α), (l.any fun p => decide (p.1 = k)) = (alook l k).isSome := fun l => by
    induction l with
    | nil => rfl
    | cons p l ih =>
      unfold alook at *
      rw [List.any_cons, List.find?_cons]
      by_cases e : p.1 = k
      · simp [e]
      · simp only [e, decide_false, Bool.false_or]
        exact ih
  have h3 : ∀ l : List (Int × α), alook (l ++ [(k, v)]) j = (alook l j).or (if j = k then some v else none) := fun l => by
    induction l with
    | nil =>
      unfold alook
      by_cases e : k = j
      · simp [e]
      · have : ¬ j = k := fun z => e z.symm
        simp [e, this]
    | cons p l ih =>
      unfold alook at *
      rw [List.cons_append, List.find?_cons, List.find?_cons]
      by_cases e : p.1 = j
      · simp [e]
      · simp only [e, decide_false]
        exact ih
  unfold aput
  by_cases h : (l.any fun p => decide (p.1 = k)) = true
  · rw [if_pos h, h1]
    by_cases e : j = k
    · subst e
      rw [h2] at h
      cases hl : alook l j with
      | none => rw [hl] at h; cases h
      | some x => simp
    · simp [e]
  · rw [if_neg h, h3]
    rw [h2] at h
    by_cases e : j = k
    · subst e
      cases hl : alook l j with
      | none => simp
      | some x => rw [hl] at h; exact absurd rfl h
    · simp [e]
theorem alook_adrop {α : Type} (l : List (Int × α)) (k j : Int) : alook (adrop l k) j = if j = k then none else alook l j := by
  induction l with
  | nil => unfold adrop alook; simp
  | cons p l ih =>
    unfold adrop alook at *
    rw [List.filter_cons]
    by_cases e : p.1 = k
    · simp only [e, ne_eq, not_true, decide_false, Bool.false_eq_true, if_false]
      rw [ih, List.find?_cons]
      by_cases e2 : j = k
      · simp [e2]
      · have : ¬ p.1 = j := fun z => e2 (z.symm.trans e)
        simp [e2, this]
    · have e' : decide (p.1 ≠ k) = true := decide_eq_true e
      rw [if_pos e', List.find?_cons, List.find?_cons]
      by_cases e2 : p.1 = j
      · have : ¬ j = k := fun z => e (e2.trans z)
        simp [e2, this]
      · simp only [e2, decide_false]
        exact ih
theorem adrop_len {α : Type} (l : List (Int × α)) (k : Int) : (adrop l k).length ≤ l.length := List.length_filter_le _ _
theorem small_step {s : CS} {n : Nat} (h : s.small n) (e : Evt) : (s.step e).small (n + 1) := by
  obtain ⟨h1, h2, h3, h4, h5⟩ := h
  have a1 := aput_len s.h.al e.tg e.th
  have a2 := adrop_len s.h.al e.tg
  have a3 := aput_len s.h.sh e.tg (s.h.shr e.tg ++ [e.th])
  have a4 := aput_len s.h.sh e.tg ((s.h.shr e.tg).filter fun x => decide (x ≠ e.th))
  have a5 := aput_len s.bg e.th true
  have a6 := aput_len s.fk e.tg true
  have a7 := aput_len s.jn e.tg true
  refine ⟨?_, fun k => ?_, ?_, ?_, ?_⟩
  · show (s.h.step e).al.length + (s.h.step e).sh.length ≤ n + 1
    unfold HS.step
    cases e.nm <;> simp only <;> omega
  · show ((s.h.step e).shr k).length ≤ n + 1
    have hk := h2 k
    have ht := h2 e.tg
    unfold HS.step HS.shr at *
    cases e.nm <;> simp only <;> try omega
    · rw [alook_aput]
      by_cases e1 : k = e.tg
      · rw [if_pos e1]
        show ((alook s.h.sh e.tg).getD [] ++ [e.th]).length ≤ n + 1
        rw [List.length_append, List.length_singleton]
        omega
      · rw [if_neg e1]
        omega
    · rw [alook_aput]
      by_cases e1 : k = e.tg
      · rw [if_pos e1]
        have := List.length_filter_le (fun x => decide (x ≠ e.th)) ((alook s.h.sh e.tg).getD [])
        show (((alook s.h.sh e.tg).getD []).filter fun x => decide (x ≠ e.th)).length ≤ n + 1
        omega
      · rw [if_neg e1]
        omega
  · show (aput s.bg e.th true).length ≤ n + 1
    omega
  · show (if e.nm = .frk then aput s.fk e.tg true else s.fk).length ≤ n + 1
    split <;> omega
  · show (if e.nm = .jn then aput s.jn e.tg true else s.jn).length ≤ n + 1
    split <;> omega
theorem small_cst (t : Tr) : (cst t).small t.length := by
  have key : ∀ (r : Tr), (cst r.reverse).small r.length := fun r => by
    induction r with
    | nil => exact ⟨Nat.le_refl _, fun _ => Nat.le_refl _, Nat.le_refl _, Nat.le_refl _, Nat.le_refl _⟩
    | cons e r ih =>
      rw [List.reverse_cons, cst_snoc, List.length_cons]
      exact small_step ih e
  have := key t.reverse
  rw [List.reverse_reverse, List.length_reverse] at this
  exact this
theorem CS.small.mono {s : CS} {m n : Nat} (h : s.small m) (hn : m ≤ n) : s.small n := ⟨Nat.le_trans h.1 hn, fun k => Nat.le_trans (h.2.1 k) hn, Nat.le_trans h.2.2.1 hn, Nat.le_trans h.2.2.2.1 hn, Nat.le_trans h.2.2.2.2 hn⟩
theorem eventD_ok {e : Evt} (h : e.ok) : eventD (encE e) = true := by
  obtain ⟨th, nm, tg⟩ := e
  obtain ⟨h1, h2⟩ := h
  have h1 : 0 ≤ th := h1
  have h2 : 0 ≤ tg := h2
  show (decide (0 ≤ th) && decide (0 ≤ tg) && (true && inF (.str nm.s) ks_NAMES)) = true
  rw [decide_eq_true h1, decide_eq_true h2]
  cases nm <;> decide +kernel
def TrWf (t : Tr) : Prop := (∀ e ∈ t, e.ok) ∧ t.length ≤ 100000
abbrev sp_trace_fault (K : PySem.W.Frag) : Sp := spD K (fun t : Tr => [encT t]) TrWf (fun t => optD (faultOf t))
def t_trace_fault (K : PySem.W.Frag) : TS := (tSeq (tIfS (tNot (tB (tCB (rIsi K) (tCons (tVar 0) (tCons (tC (.ty "tuple")) tNil))))) (tRet (tUn (rU fun i => .int (-i)) (tC (.int 1)))) tNext) (tSeq (tAsg (tMake (He.ga K "Course") (sp_Course___init__ K) [] E0 tNil) (gName 1)) (tSeq (tFor (iEnumA K (tCons (tVar 0) tNil)) (gTup K 2 (gCons (gName 2) (gCons (gName 3) gNil))) (tSeq (tIfS (tOr (tNot (tB (tCall (sp_is_event K) [] E0 (tCons (tVar 3) tNil)))) (tNot (tB (tMeth (He.ga K "Course") "can" (sp_Course_can K) [] E0 (tVar 1) (tCons (tVar 3) tNil))))) (tRet (tVar 2)) tNext) (tDrop (tMeth (He.ga K "Course") "do" (sp_Course_do K) [] E0 (tVar 1) (tCons (tVar 3) tNil))))) (tRet (tC .non)))))
theorem run_trace_fault {w : World} {K : PySem.W.Frag} {mg : Str → Option Value} (T : Txt w K mg) (vs : List V) (H : Hp) (Q : VK) (E : XK) (hyp : sp_trace_fault K vs H Q E) : t_trace_fault K { nx := fun _ H' => Q .non H', rt := Q } (L2.start ["value", "course", "index", "event"] vs) H := by
  obtain ⟨t, Y, hY, hv, ⟨hok, hlen⟩, q⟩ := hyp
  have hv := hv.mono (cut_le H Y)
  have q : ∀ v H', Same H H' → Has K (cut H' Y) (optD (faultOf t)) v → Q v H' := q
  obtain ⟨v0, r0, rfl, hv0, er⟩ := hv
  cases er
  obtain ⟨a, xs, rfl, ha, hxs⟩ := id hv0
  have hxl : xs.length = t.length := by rw [hxs.len, List.length_map]
  -- isinstance(value, tuple)
  refine ⟨.ref a, rfl, .ref a, .ty "tuple", _, _, true, rfl, .ty "tuple", .base (.tup ha), kit_ty (by decide +kernel), true, rfl, ?_⟩
  refine iteF ?_
  -- course = Course()
  intro c dx nc nd ncd
  have hca : c ≠ a := fun z => by rw [z, ha] at nc; cases nc
  refine ⟨c, dx, rfl, upd_same, fun h a1 a2 b1 b2 b3 dh H1 fr C1 k1 => ⟨rfl, ?_⟩⟩
  have fr0 : ∀ b, b ∈ [h, a1, a2, b1, b2, b3] → H b = none := fun b hb => (upd_none (upd_none (fr b hb)).1).1
  have s1 : Same H H1 := fun b o e => k1 b o (ne_of_none e nc) (by rw [upd_ne (ne_of_none e nc), upd_ne (ne_of_none e nd)]; exact e)
  -- the loop
  refine .inr ⟨.ref a, rfl, a, xs, rfl, s1 _ _ ha, ?_⟩
  refine ⟨fun i m σ H' => m = t.length - i ∧ i ≤ t.length ∧ Same H H' ∧ CAt K H' c h a1 a2 b1 b2 b3 dx dh (cst (t.take i)) ∧ fb (cst (t.take i)) i (t.drop i) = faultOf t ∧ ∃ y2 y3, σ = [some (.ref a), some (.ref c), y2, y3],
    ⟨t.length, by omega, by omega, s1, C1, rfl, none, none, rfl⟩, fun i m σ H' hW => ?_⟩
  obtain ⟨rfl, hi, s2, C2, hf, y2, y3, rfl⟩ := hW
  by_cases hlt : i < t.length
  · have hix : i < xs.length := by omega
    have ht : t[i]? = some t[i] := List.getElem?_eq_getElem hlt
    refine .inr ⟨⟨xs, xs[i], s2 _ _ ha, List.getElem?_eq_getElem hix⟩, fun σ3 H3 => i + 1 ≤ t.length ∧ Same H H3 ∧ CAt K H3 c h a1 a2 b1 b2 b3 dx dh (cst (t.take (i + 1))) ∧ fb (cst (t.take (i + 1))) (i + 1) (t.drop (i + 1)) = faultOf t ∧ ∃ y2 y3, σ3 = [some (.ref a), some (.ref c), y2, y3],
      fun σ3 H3 hN => ⟨t.length - (i + 1), by omega, rfl, hN⟩, fun x H3 hy => ?_⟩
    obtain ⟨P, x', rfl, nP, rfl, hx'⟩ := hy
    have hx' := hx' xs (s2 _ _ ha)
    obtain ⟨d', hd', hh'⟩ := hxs.get' hx'
    have hd' : d' = encE t[i] := by
      rw [List.getElem?_map, ht] at hd'
      exact (Option.some.inj hd').symm
    subst hd'
    have sP : Same H' (upd H' P (.tup [.int (i : Nat), x'])) := same_new nP
    have s3 := s2.trans sP
    refine ⟨P, _, rfl, SqT.of upd_same, rfl, _, _, rfl, _, _, rfl, rfl, ?_⟩
    have C3 := C2.same sP
    have he : Has K (upd H' P (.tup [.int (i : Nat), x'])) (encE t[i]) x' := hh'.mono s3
    generalize hG : upd H' P (.tup [.int (i : Nat), x']) = H3 at C3 he s3 ⊢
    have hev : t[i].ok := hok _ (List.getElem_mem hlt)
    have I : Env K [] [] H3 [.un, .dat ((cst (t.take i)).D K), .un, .dat (encE t[i])] [some (.ref a), some (.ref c), some (.int (i : Nat)), some x'] := by
      refine Env.all rfl (fun j d hd => ?_) fun j p d hd => ?_
      · match j, hd with
        | 0, hd => cases hd
        | 1, hd => cases hd; exact ⟨_, rfl, C3.has⟩
        | 2, hd => cases hd
        | 3, hd => cases hd; exact ⟨_, rfl, he⟩
        | n + 4, hd => cases hd
      · match j, hd with
        | 0, hd => cases hd
        | 1, hd => cases hd
        | 2, hd => cases hd
        | 3, hd => cases hd
        | n + 4, hd => cases hd
    have dr : t.drop i = t[i] :: t.drop (i + 1) := List.drop_eq_getElem_cons hlt
    have tk : t.take (i + 1) = t.take i ++ [t[i]] := by rw [List.take_add_one, ht]; rfl
    refine (et_or (et_not (et_B (ev_call (encE t[i]) (ea_cons (ev_var rfl) ea_nil) (show plain2 (encE t[i]) = true from rfl)))) fun _ => et_not (et_B (ev_meth (cst (t.take i), t[i]) (ev_var rfl) rfl (ea_cons (ev_var rfl) ea_nil) rfl trivial))).go I fun H4 s4 => ?_
    rw [eventD_ok hev, Bool.not_true, Bool.false_or]
    cases hc : (cst (t.take i)).can t[i] with
    | false =>
      have hr : faultOf t = some i := by
        rw [← hf, dr]
        unfold fb
        rw [if_neg (by rw [hc]; decide)]
      refine iteT ⟨_, rfl, ?_⟩
      rw [hr] at q
      exact q _ H4 (s3.trans s4) rfl
    | true =>
      refine iteF ⟨.ref c, rfl, c, dx, _, rfl, (C3.same s4).c, rfl, x', rfl, ?_⟩
      refine ⟨c, h, a1, a2, b1, b2, b3, dx, dh, x', cst (t.take i), t[i], rfl, C3.same s4, he.mono s4, hc, (small_cst _).mono (by rw [List.length_take]; omega), fun H5 C5 k5 => ?_⟩
      refine ⟨hlt, fun b o ho => ?_, ?_, ?_, _, _, rfl⟩
      · refine k5 b o (fun z => ?_) ((s3.trans s4) _ _ ho)
        have := fr0 b (List.mem_cons_of_mem _ z)
        rw [ho] at this
        cases this
      · rw [tk, cst_snoc]
        exact C5
      · rw [tk, cst_snoc, ← hf, dr]
        conv => rhs; unfold fb
        rw [if_pos hc]
  · have e : i = t.length := by omega
    refine .inl ⟨⟨xs, s2 _ _ ha, by omega⟩, ?_⟩
    have hr : faultOf t = none := by
      rw [← hf, e, List.drop_length]
      rfl
    rw [hr] at q
    exact q _ H' s2 rfl
theorem ok_trace_fault {P : Program} {w : World} {K : PySem.W.Frag} {mg : Str → Option Value} {base : Heap} (T : Txt w K mg) : Def P w K mg base "trace_fault" ["value"] 8 (sp_trace_fault K) := by
  obtain ⟨f, fd, F, gl⟩ := T.fn_trace_fault
  refine ⟨f, fd, gl, F.kp, FunD.bindsN F (fun _ _ _ _ _ _ us hl => match us, hl with | [_], _ => rfl), FunD.ok F sc_trace_fault (fun vs H Q E h => ?_) (fun cdv A outer s H vs Q E hr h => ⟨t_trace_fault K, PSs.nox ?_, run_trace_fault T vs H Q E h⟩)⟩
  · obtain ⟨z, Y, _, h1, _⟩ := h
    rw [h1.len]
    rfl
  · exact (pss_cons (ps_if (pt_not (pt_val (pe_callB call_isi (by rfl) T.b_isinstance (by decide +kernel) (pa_cons (pv 0) (pa_cons (pe_bltn (v := .ty "tuple") (by rfl) T.b_tuple (by decide +kernel) rfl) pa_nil))))) (pss_one (ps_ret (pe_un un_neg pe_int))) pss_nil) (pss_cons (ps_set (i := 1) sc_trace_fault.nd rfl (by first | exact Or.inl rfl | exact Or.inr rfl) (pe_makeD0 (ok_Course___init__ T) hr (by decide) (by rfl))) (pss_cons (ps_for PassesOwn.never rfl (pi_enumA (by rfl) T.b_enumerate (pa_cons (pv 0) pa_nil)) (pg_tup rfl (pgs_cons (pg_name (i := 2) sc_trace_fault.nd rfl (by first | exact Or.inl rfl | exact Or.inr rfl)) (pgs_cons (pg_name (i := 3) sc_trace_fault.nd rfl (by first | exact Or.inl rfl | exact Or.inr rfl)) pgs_nil))) (pss_cons (ps_if (PW.pt (pw_or (pt_not (pt_val (pe_callD (ok_is_event T) hr (by decide) (by rfl) (pa_cons (pv 3) pa_nil)))) (pw_or1 (pt_not (pt_val (pe_methD (pv 1) T.cl_Course (ok_Course_can T) hr (by decide) (pa_cons (pv 3) pa_nil))))))) (pss_one (ps_ret (pv 2))) pss_nil) (pss_one (ps_expr (pe_methD (pv 1) T.cl_Course (ok_Course_do T) hr (by decide) (pa_cons (pv 3) pa_nil)))))) (pss_one (ps_ret pe_non)))))
end DL
namespace DL
open PySem PySem.Spec L2
theorem Tr.snoc_ind {P : Tr → Prop} (h0 : P []) (hs : ∀ t e, P t → P (t ++ [e])) (t : Tr) : P t := by
  have key : ∀ r : Tr, P r.reverse := fun r => by
    induction r with
    | nil => exact h0
    | cons e r ih =>
      rw [List.reverse_cons]
      exact hs _ _ ih
  have := key t.reverse
  rw [List.reverse_reverse] at this
  exact this
theorem ahas_put {α : Type} (l : List (Int × α)) (k j : Int) (v : α) : ahas (aput l k v) j = (decide (j = k) || ahas l j) := by
  unfold ahas
  rw [alook_aput]
  by_cases h : j = k <;> simp [h]
theorem cst_al (t : Tr) : (cst t).h.al = (lk t).1 := by
  induction t using Tr.snoc_ind with
  | h0 => rfl
  | hs t e ih =>
    rw [cst_snoc, lk_snoc]
    show ((cst t).h.step e).al = _
    unfold HS.step lkStep
    cases e.nm with
    | acq => show aput _ _ _ = aput _ _ _; rw [ih]
    | rel => show adrop _ _ = adrop _ _; rw [ih]
    | _ => exact ih
theorem cst_sh (t : Tr) (x y : Int) : x ∈ (cst t).h.shr y ↔ (x, y) ∈ (lk t).2 := by
  induction t using Tr.snoc_ind with
  | h0 =>
    show x ∈ ([] : List Int) ↔ (x, y) ∈ ([] : List (Int × Int))
    simp
  | hs t e ih =>
    rw [cst_snoc, lk_snoc]
    show x ∈ ((cst t).h.step e).shr y ↔ _
    unfold HS.step lkStep
    cases hn : e.nm with
    | sha =>
      show x ∈ (alook (aput (cst t).h.sh e.tg ((cst t).h.shr e.tg ++ [e.th])) y).getD [] ↔ (x, y) ∈ pput (lk t).2 (e.th, e.tg)
      have hp : (x, y) ∈ pput (lk t).2 (e.th, e.tg) ↔ (x, y) ∈ (lk t).2 ∨ (x, y) = (e.th, e.tg) := by
        unfold pput
        split
        · rename_i h
          exact ⟨.inl, fun z => z.elim id fun w => by rw [w]; exact h⟩
        · rw [List.mem_append, List.mem_singleton]
      rw [alook_aput, hp, ← ih, Prod.mk.injEq]
      by_cases h : y = e.tg
      · rw [if_pos h]
        show x ∈ (cst t).h.shr e.tg ++ [e.th] ↔ _
        rw [List.mem_append, List.mem_singleton, h]
        simp
      · rw [if_neg h]
        show x ∈ (cst t).h.shr y ↔ _
        simp [h]
    | uns =>
      show x ∈ (alook (aput (cst t).h.sh e.tg (((cst t).h.shr e.tg).filter fun x => decide (x ≠ e.th))) y).getD [] ↔ (x, y) ∈ (lk t).2.filter fun q => decide (q ≠ (e.th, e.tg))
      rw [alook_aput, List.mem_filter, ← ih]
      by_cases h : y = e.tg
      · rw [if_pos h]
        show x ∈ ((cst t).h.shr e.tg).filter (fun x => decide (x ≠ e.th)) ↔ _
        rw [List.mem_filter, h]
        simp
      · rw [if_neg h]
        show x ∈ (cst t).h.shr y ↔ _
        simp [h]
    | _ => exact ih
theorem cst_bg (t : Tr) (k : Int) : ahas (cst t).bg k = true ↔ ∃ e ∈ t, e.th = k := by
  induction t using Tr.snoc_ind with
  | h0 => exact ⟨fun h => (by cases h), fun ⟨e, h, _⟩ => (by simp at h)⟩
  | hs t e ih =>
    rw [cst_snoc]
    show ahas (aput (cst t).bg e.th true) k = true ↔ _
    rw [ahas_put, Bool.or_eq_true, ih]
    constructor
    · rintro (h | ⟨o, h1, h2⟩)
      · exact ⟨e, by simp, (of_decide_eq_true h).symm⟩
      · exact ⟨o, List.mem_append_left _ h1, h2⟩
    · rintro ⟨o, h1, h2⟩
      rcases List.mem_append.mp h1 with z | z
      · exact .inr ⟨o, z, h2⟩
      · rw [List.mem_singleton.mp z] at h2
        exact .inl (decide_eq_true h2.symm)
theorem cst_fk (t : Tr) (k : Int) : ahas (cst t).fk k = true ↔ ∃ e ∈ t, e.nm = .frk ∧ e.tg = k := by
  induction t using Tr.snoc_ind with
  | h0 => exact ⟨fun h => (by cases h), fun ⟨e, h, _⟩ => (by simp at h)⟩
  | hs t e ih =>
    rw [cst_snoc]
    show ahas (if e.nm = .frk then aput (cst t).fk e.tg true else (cst t).fk) k = true ↔ _
    by_cases hn : e.nm = .frk
    · rw [if_pos hn, ahas_put, Bool.or_eq_true, ih]
      constructor
      · rintro (h | ⟨o, h1, h2⟩)
        · exact ⟨e, by simp, hn, (of_decide_eq_true h).symm⟩
        · exact ⟨o, List.mem_append_left _ h1, h2⟩
      · rintro ⟨o, h1, h2, h3⟩
        rcases List.mem_append.mp h1 with z | z
        · exact .inr ⟨o, z, h2, h3⟩
        · rw [List.mem_singleton.mp z] at h3
          exact .inl (decide_eq_true h3.symm)
    · rw [if_neg hn, ih]
      constructor
      · rintro ⟨o, h1, h2⟩
        exact ⟨o, List.mem_append_left _ h1, h2⟩
      · rintro ⟨o, h1, h2, h3⟩
        rcases List.mem_append.mp h1 with z | z
        · exact ⟨o, z, h2, h3⟩
        · rw [List.mem_singleton.mp z] at h2
          exact absurd h2 hn
theorem cst_jn (t : Tr) (k : Int) : ahas (cst t).jn k = true ↔ ∃ e ∈ t, e.nm = .jn ∧ e.tg = k := by
  induction t using Tr.snoc_ind with
  | h0 => exact ⟨fun h => (by cases h), fun ⟨e, h, _⟩ => (by simp at h)⟩
  | hs t e ih =>
    rw [cst_snoc]
    show ahas (if e.nm = .jn then aput (cst t).jn e.tg true else (cst t).jn) k = true ↔ _
    by_cases hn : e.nm = .jn
    · rw [if_pos hn, ahas_put, Bool.or_eq_true, ih]
      constructor
      · rintro (h | ⟨o, h1, h2⟩)
        · exact ⟨e, by simp, hn, (of_decide_eq_true h).symm⟩
        · exact ⟨o, List.mem_append_left _ h1, h2⟩
      · rintro ⟨o, h1, h2, h3⟩
        rcases List.mem_append.mp h1 with z | z
        · exact .inr ⟨o, z, h2, h3⟩
        · rw [List.mem_singleton.mp z] at h3
          exact .inl (decide_eq_true h3.symm)
    · rw [if_neg hn, ih]
      constructor
      · rintro ⟨o, h1, h2⟩
        exact ⟨o, List.mem_append_left _ h1, h2⟩
      · rintro ⟨o, h1, h2, h3⟩
        rcases List.mem_append.mp h1 with z | z
        · exact ⟨o, z, h2, h3⟩
        · rw [List.mem_singleton.mp z] at h2
          exact absurd h2 hn
theorem hcan_of_open {t : Tr} {e : Evt} (h : lopen (lk t) e = true) : (cst t).h.can e = true := by
  unfold lopen at h
  unfold HS.can
  rw [cst_al]
  cases hn : e.nm with
  | acq =>
    rw [hn] at h
    simp only [Bool.and_eq_true] at h ⊢
    refine ⟨h.1, ?_⟩
    rw [List.isEmpty_iff] at h ⊢
    cases hs : (cst t).h.shr e.tg with
    | nil => rfl
    | cons x l =>
      have := (cst_sh t x e.tg).mp (by rw [hs]; exact List.mem_cons_self)
      have h2 : (x, e.tg) ∈ (lk t).2.filter fun p => decide (p.2 = e.tg) := List.mem_filter.mpr ⟨this, decide_eq_true rfl⟩
      rw [h.2] at h2
      cases h2
  | sha =>
    rw [hn] at h
    simp only [Bool.and_eq_true, Bool.not_eq_true', decide_eq_false_iff_not] at h ⊢
    refine ⟨h.1, ?_⟩
    cases hc : ((cst t).h.shr e.tg).contains e.th with
    | false => rfl
    | true => exact absurd ((cst_sh t _ _).mp (List.contains_iff_mem.mp hc)) h.2
  | rel =>
    rw [hn] at h
    exact h
  | uns =>
    rw [hn] at h
    exact List.contains_iff_mem.mpr ((cst_sh t _ _).mpr (of_decide_eq_true h))
  | _ => rfl
/-- what the law's own walk lets through, the course lets through -/
theorem can_of_free {t : Tr} {e : Evt} (h : lfree t e = true) : (cst t).can e = true := by
  unfold lfree at h
  by_cases h1 : (!lopen (lk t) e || t.any fun o => decide (o.nm = .jn) && decide (o.tg = e.th)) = true
  · rw [if_pos h1] at h
    cases h
  rw [if_neg h1] at h
  have h1 := Bool.eq_false_iff.mpr h1
  rw [Bool.or_eq_false_iff, Bool.not_eq_false'] at h1
  obtain ⟨ho, hj⟩ := h1
  have nj : ahas (cst t).jn e.th = false := by
    cases hc : ahas (cst t).jn e.th with
    | false => rfl
    | true =>
      obtain ⟨o, a, b, c⟩ := (cst_jn t e.th).mp hc
      have : (t.any fun o => decide (o.nm = .jn) && decide (o.tg = e.th)) = true := List.any_eq_true.mpr ⟨o, a, by rw [decide_eq_true b, decide_eq_true c]; rfl⟩
      rw [hj] at this
      cases this
  unfold CS.can
  rw [nj, hcan_of_open ho]
  by_cases hf : e.nm = .frk
  · rw [if_pos hf, Bool.and_eq_true, Bool.not_eq_true', Bool.not_eq_true'] at h
    have hkn : e.tg ∉ knownF t := fun z => by
      have := List.contains_iff_mem.mpr z
      rw [h.2] at this
      cases this
    have n1 : ahas (cst t).bg e.tg = false := by
      cases hc : ahas (cst t).bg e.tg with
      | false => rfl
      | true =>
        obtain ⟨o, a, b⟩ := (cst_bg t e.tg).mp hc
        exact absurd (List.mem_append_left _ (List.mem_map.mpr ⟨o, a, b⟩)) hkn
    have n2 : ahas (cst t).fk e.tg = false := by
      cases hc : ahas (cst t).fk e.tg with
      | false => rfl
      | true =>
        obtain ⟨o, a, b, c⟩ := (cst_fk t e.tg).mp hc
        exact absurd (List.mem_append_right _ (List.mem_map.mpr ⟨o, List.mem_filter.mpr ⟨a, by rw [decide_eq_true b]; rfl⟩, c⟩)) hkn
    have n3 : ahas (cst t).jn e.tg = false := by
      cases hc : ahas (cst t).jn e.tg with
      | false => rfl
      | true =>
        obtain ⟨o, a, b, c⟩ := (cst_jn t e.tg).mp hc
        exact absurd (List.mem_append_right _ (List.mem_map.mpr ⟨o, List.mem_filter.mpr ⟨a, by rw [decide_eq_true b, Bool.or_true]⟩, c⟩)) hkn
    rw [n1, n2, n3, h.1]
    simp
  · rw [if_neg hf] at h
    have e1 : decide (e.nm = .frk) = false := decide_eq_false hf
    rw [e1]
    cases hj2 : decide (e.nm = .jn) with
    | false => rfl
    | true =>
      rw [hj2] at h
      have h3 : decide (e.tg = e.th) = false := by simpa using h
      rw [h3]
      rfl
/-- a trace without a fault: each event was possible -/
theorem fb_none : ∀ (t : Tr) (s : CS) (i : Nat), fb s i t = none ↔ ∀ k (h : k < t.length), ((t.take k).foldl CS.step s).can t[k] = true
  | [], s, i => ⟨fun _ k h => by simp at h, fun _ => rfl⟩
  | e :: r, s, i => by
    unfold fb
    by_cases h : s.can e = true
    · rw [if_pos h, fb_none r]
      constructor
      · intro q k hk
        cases k with
        | zero => exact h
        | succ k => exact q k (by simpa using hk)
      · intro q k hk
        exact q (k + 1) (by simpa using hk)
    · rw [if_neg h]
      constructor
      · intro q
        cases q
      · intro q
        exact absurd (q 0 (by simp)) h
theorem fault_none {t : Tr} : faultOf t = none ↔ ∀ k (h : k < t.length), (cst (t.take k)).can t[k] = true := fb_none t .nil 0
theorem fault_snoc {t : Tr} {e : Evt} (h : faultOf t = none) (hc : (cst t).can e = true) : faultOf (t ++ [e]) = none := by
  rw [fault_none] at h ⊢
  intro k hk
  by_cases hlt : k < t.length
  · rw [List.getElem_append_left hlt, List.take_append_of_le_length (by omega)]
    exact h k hlt
  · have e1 : k = t.length := by
      rw [List.length_append, List.length_singleton] at hk
      omega
    subst e1
    rw [List.take_left]
    simpa using hc
end DL
namespace DL
open PySem PySem.Spec L2
theorem sc_check_trace : FnScope ["trace", "index"] ["trace"] (defScope s_check_trace) := ⟨rfl, rfl, rfl, by decide +kernel, rfl, by decide +kernel, by decide +kernel⟩
/-- well formed, without a fault, each event behind those right before it -/
def ValidT (t : Tr) : Prop := TrWf t ∧ faultOf t = none ∧ Back t
abbrev sp_check_trace (K : PySem.W.Frag) : Sp := spD K (fun x : Tr => [encT x]) (fun x => TrWf x ∧ faultOf x = none) (fun x => .non)
def t_check_trace (K : PySem.W.Frag) : TS := (tSeq (tAsg (tCall (sp_trace_fault K) [] E0 (tCons (tVar 0) tNil)) (gName 1)) (tIfS (tTest (tOp (fun x y H Q => y = .non ∧ Q (.bl (!decide (x = .non))) H) (tVar 1) (tC .non))) tNever tNext))
theorem run_check_trace {K : PySem.W.Frag} (x : Tr) (hx : TrWf x ∧ faultOf x = none) : Runs K (t_check_trace K) [.dat (encT x), .un] { nx := fun _ => (.non : Dt) = .non, rt := fun e _ => e = .non } := by
  obtain ⟨h1, h2⟩ := hx
  refine q_set (ev_call x (ea_cons (ev_var rfl) ea_nil) h1) (r_if (b := false) (EvT.is (et_test (ev_op (ev_var rfl) ev_non rv_notN)) ?_) (fun e => by cases e) fun _ => r_next rfl)
  rw [h2]
  rfl
theorem ok_check_trace {P : Program} {w : World} {K : PySem.W.Frag} {mg : Str → Option Value} {base : Heap} (T : Txt w K mg) : Def P w K mg base "check_trace" ["trace"] 9 (sp_check_trace K) := by
  obtain ⟨f, fd, F, gl⟩ := T.fn_check_trace
  exact ⟨f, fd, gl, F.kp, FunD.bindsN F (fun _ _ _ _ _ _ us hl => match us, hl with | [_], _ => rfl), fn_f F sc_check_trace (fun _ => rfl) (t_check_trace K) (fun cdv A outer s H E hr => (pss_cons (ps_set (i := 1) sc_check_trace.nd rfl (by first | exact Or.inl rfl | exact Or.inr rfl) (pe_callD (ok_trace_fault T) hr (by decide) (by rfl) (pa_cons (pv 0) pa_nil))) (pss_one (ps_if (pt_cmpR op_notN (pv 1) pe_non (nomark _)) (pss_one ps_never) pss_nil)))) (by decide) (fun x hx => run_check_trace x hx)⟩
end DL
namespace DL
open PySem PySem.Spec L2
theorem Tr.at_eq {t : Tr} {i : Nat} (h : i < t.length) : Tr.at t i = t[i] := by
  have := Tr.at_get h
  rw [List.getElem?_eq_getElem h] at this
  exact (Option.some.inj this).symm
theorem can_at {t : Tr} (hf : faultOf t = none) {i : Nat} (h : i < t.length) : (cst (t.take i)).can (Tr.at t i) = true := by
  rw [Tr.at_eq h]
  exact fault_none.mp hf i h
theorem mem_take {t : Tr} {i j : Nat} (h : i < j) (hl : i < t.length) : Tr.at t i ∈ t.take j := by
  rw [Tr.at_eq hl]
  have h2 : i < (t.take j).length := by rw [List.length_take]; omega
  have e : (t.take j)[i] = t[i] := List.getElem_take
  rw [← e]
  exact List.getElem_mem h2
/-- what can tells -/
theorem can_parts {s : CS} {e : Evt} (h : s.can e = true) : ahas s.jn e.th = false ∧ s.h.can e = true ∧ ((e.nm = .frk ∨ e.nm = .jn) → e.tg ≠ e.th) ∧ (e.nm = .frk → ahas s.bg e.tg = false ∧ ahas s.fk e.tg = false ∧ ahas s.jn e.tg = false) := by
  unfold CS.can at h
  simp only [Bool.and_eq_true, Bool.not_eq_true', Bool.or_eq_false_iff, Bool.or_eq_true, Bool.and_eq_false_iff, decide_eq_false_iff_not, Bool.not_eq_false'] at h
  obtain ⟨⟨⟨h1, h2⟩, h3⟩, h4⟩ := h
  refine ⟨h1, h2, fun hn => ?_, fun hn => ?_⟩
  · rcases h3 with ⟨a, b⟩ | c
    · exact hn.elim (fun z => absurd z a) fun z => absurd z b
    · exact c
  · rcases h4 with a | a
    · exact absurd hn a
    · exact ⟨a.1.1, a.1.2, a.2⟩
theorem evs_mem {t : Tr} {th : Int} {i : Nat} : i ∈ evs t th ↔ i < t.length ∧ (Tr.at t i).th = th := by
  unfold evs
  rw [List.mem_filter, List.mem_range, decide_eq_true_iff]
theorem forkO_some {t : Tr} {th : Int} {j : Nat} (h : forkO t th = some j) : j < t.length ∧ (Tr.at t j).nm = .frk ∧ (Tr.at t j).tg = th := by
  unfold forkO at h
  have hm := List.mem_of_mem_head? (Option.mem_def.mpr h)
  rw [List.mem_filter, List.mem_range, Bool.and_eq_true, decide_eq_true_iff, decide_eq_true_iff] at hm
  exact hm
theorem last_mem {l : List Nat} {j : Nat} (h : l.getLast? = some j) : j ∈ l := List.mem_of_getLast? h
theorem prev_lt {t : Tr} (hf : faultOf t = none) {i j : Nat} (hi : i < t.length) (h : prevO t i = some j) : j < i := by
  unfold prevO at h
  cases hl : (evs (t.take i) (Tr.at t i).th).getLast? with
  | some k =>
    rw [hl] at h
    cases h
    have := (evs_mem.mp (last_mem hl)).1
    rw [List.length_take] at this
    omega
  | none =>
    rw [hl] at h
    obtain ⟨h1, h2, h3⟩ := forkO_some h
    obtain ⟨_, _, c3, c4⟩ := can_parts (can_at hf h1)
    by_cases hij : j < i
    · exact hij
    · exfalso
      by_cases e : j = i
      · subst e
        exact c3 (.inl h2) h3
      · have hb := (c4 h2).1
        have : ahas (cst (t.take j)).bg (Tr.at t j).tg = true := (cst_bg _ _).mpr ⟨Tr.at t i, mem_take (by omega) hi, h3.symm⟩
        rw [hb] at this
        cases this
theorem join_lt {t : Tr} (hf : faultOf t = none) {i j : Nat} (hi : i < t.length) (hn : (Tr.at t i).nm = .jn) (h : joinO t i = some j) : j < i := by
  unfold joinO at h
  obtain ⟨_, _, c3, _⟩ := can_parts (can_at hf hi)
  cases hl : (evs t (Tr.at t i).tg).getLast? with
  | some k =>
    rw [hl] at h
    cases h
    obtain ⟨h1, h2⟩ := evs_mem.mp (last_mem hl)
    by_cases hij : j < i
    · exact hij
    · exfalso
      by_cases e : j = i
      · subst e
        exact c3 (.inr hn) h2.symm
      · have c1 := (can_parts (can_at hf h1)).1
        have : ahas (cst (t.take j)).jn (Tr.at t j).th = true := (cst_jn _ _).mpr ⟨Tr.at t i, mem_take (by omega) hi, hn, h2.symm⟩
        rw [c1] at this
        cases this
  | none =>
    rw [hl] at h
    obtain ⟨h1, h2, h3⟩ := forkO_some h
    by_cases hij : j < i
    · exact hij
    · exfalso
      by_cases e : j = i
      · subst e
        rw [hn] at h2
        cases h2
      · have c4 := ((can_parts (can_at hf h1)).2.2.2 h2).2.2
        have : ahas (cst (t.take j)).jn (Tr.at t j).tg = true := (cst_jn _ _).mpr ⟨Tr.at t i, mem_take (by omega) hi, hn, h3.symm⟩
        rw [c4] at this
        cases this
theorem cst_next {t : Tr} {m : Nat} (h : m < t.length) : cst (t.take (m + 1)) = (cst (t.take m)).step (Tr.at t m) := by
  rw [← cst_snoc, List.take_add_one, Tr.at_get h]
  rfl
/-- a lock taken alone stays so till its end -/
theorem stays_acq {t : Tr} (hf : faultOf t = none) {k : Nat} (hk : k < t.length) (hn : (Tr.at t k).nm = .acq) : ∀ m, k < m → m ≤ t.length → (∀ j, k < j → j < m → Tr.at t j ≠ ⟨(Tr.at t k).th, .rel, (Tr.at t k).tg⟩) → alook (cst (t.take m)).h.al (Tr.at t k).tg = some (Tr.at t k).th := fun m => by
  induction m with
  | zero => intro h; omega
  | succ m ih =>
    intro h1 h2 h3
    have hm : m < t.length := by omega
    rw [cst_next hm]
    show alook ((cst (t.take m)).h.step (Tr.at t m)).al _ = _
    by_cases e : m = k
    · subst e
      unfold HS.step
      rw [hn]
      show alook (aput _ _ _) _ = _
      rw [alook_aput, if_pos rfl]
    · have hi := ih (by omega) (by omega) fun j a b => h3 j a (by omega)
      have hc := (can_parts (can_at hf hm)).2.1
      have hne := h3 m (by omega) (by omega)
      unfold HS.can at hc
      unfold HS.step
      cases hnm : (Tr.at t m).nm with
      | acq =>
        rw [hnm] at hc
        show alook (aput _ _ _) _ = _
        rw [alook_aput]
        by_cases e2 : (Tr.at t k).tg = (Tr.at t m).tg
        · rw [← e2, hi] at hc
          cases hc
        · rw [if_neg e2]
          exact hi
      | rel =>
        rw [hnm] at hc
        show alook (adrop _ _) _ = _
        rw [alook_adrop]
        by_cases e2 : (Tr.at t k).tg = (Tr.at t m).tg
        · rw [← e2, hi] at hc
          have e3 : (Tr.at t k).th = (Tr.at t m).th := by
            have := eq_of_beq hc
            exact Option.some.inj this
          refine absurd ?_ hne
          rw [e3, e2, ← hnm]
        · rw [if_neg e2]
          exact hi
      | _ => exact hi
theorem stays_sha {t : Tr} {k : Nat} (hk : k < t.length) (hn : (Tr.at t k).nm = .sha) : ∀ m, k < m → m ≤ t.length → (∀ j, k < j → j < m → Tr.at t j ≠ ⟨(Tr.at t k).th, .uns, (Tr.at t k).tg⟩) → (Tr.at t k).th ∈ (cst (t.take m)).h.shr (Tr.at t k).tg := fun m => by
  induction m with
  | zero => intro h; omega
  | succ m ih =>
    intro h1 h2 h3
    have hm : m < t.length := by omega
    rw [cst_next hm]
    show _ ∈ ((cst (t.take m)).h.step (Tr.at t m)).shr _
    by_cases e : m = k
    · subst e
      unfold HS.step
      rw [hn]
      show _ ∈ (alook (aput _ _ _) _).getD []
      rw [alook_aput, if_pos rfl]
      exact List.mem_append_right _ (by simp)
    · have hi := ih (by omega) (by omega) fun j a b => h3 j a (by omega)
      have hne := h3 m (by omega) (by omega)
      unfold HS.step
      cases hnm : (Tr.at t m).nm with
      | sha =>
        show _ ∈ (alook (aput _ _ _) _).getD []
        rw [alook_aput]
        by_cases e2 : (Tr.at t k).tg = (Tr.at t m).tg
        · rw [if_pos e2]
          exact List.mem_append_left _ (by rw [← e2]; exact hi)
        · rw [if_neg e2]
          exact hi
      | uns =>
        show _ ∈ (alook (aput _ _ _) _).getD []
        rw [alook_aput]
        by_cases e2 : (Tr.at t k).tg = (Tr.at t m).tg
        · rw [if_pos e2]
          refine List.mem_filter.mpr ⟨by rw [← e2]; exact hi, decide_eq_true fun e3 => hne ?_⟩
          rw [e3, e2, ← hnm]
        · rw [if_neg e2]
          exact hi
      | _ => exact hi
theorem first_min (p : Nat → Bool) : ∀ (n a j : Nat), ((List.range' a n).filter p).head? = some j → ∀ i, a ≤ i → i < j → p i = false
  | 0, a, j, h => by simp at h
  | n + 1, a, j, h => by
    rw [List.range'_succ, List.filter_cons] at h
    intro i h1 h2
    by_cases hp : p a = true
    · rw [if_pos hp] at h
      have : a = j := Option.some.inj h
      omega
    · rw [if_neg hp] at h
      by_cases e : i = a
      · subst e
        exact Bool.eq_false_iff.mpr hp
      · exact first_min p n (a + 1) j h i (by omega) h2
/-- two that block one another: the earlier one ends before the later one -/
theorem no_end {t : Tr} (hf : faultOf t = none) {k i : Nat} (hi : i < t.length) (hki : k < i) (hb : blk t k i = true) (no : ∀ m, k < m → m < i → Tr.at t m ≠ ⟨(Tr.at t k).th, (Tr.at t k).nm.ended, (Tr.at t k).tg⟩) : False := by
  have hkl : k < t.length := by omega
  unfold blk at hb
  simp only [Bool.and_eq_true, Bool.not_eq_true', Bool.or_eq_false_iff, Bool.and_eq_false_iff, decide_eq_false_iff_not, Bool.not_eq_false', decide_eq_true_eq] at hb
  obtain ⟨⟨b1, b2, b3, b4⟩, b5⟩ := hb
  have hc := (can_parts (can_at hf hi)).2.1
  unfold HS.can at hc
  cases hn : (Tr.at t k).nm with
  | acq =>
    have hs := stays_acq hf hkl hn i hki (by omega) fun m a b => by
      have := no m a b
      rw [hn] at this
      exact this
    rw [b2] at hs
    cases hni : (Tr.at t i).nm with
    | acq => rw [hni] at hc; simp only at hc; rw [hs] at hc; cases hc
    | sha => rw [hni] at hc; simp only at hc; rw [hs] at hc; cases hc
    | _ => rw [hni] at b4; cases b4
  | sha =>
    have hs := stays_sha hkl hn i hki (by omega) fun m a b => by
      have := no m a b
      rw [hn] at this
      exact this
    rw [b2] at hs
    cases hni : (Tr.at t i).nm with
    | acq =>
      rw [hni] at hc
      simp only [Bool.and_eq_true] at hc
      rw [List.isEmpty_iff] at hc
      rw [hc.2] at hs
      cases hs
    | sha =>
      rcases b5 with z | z
      · exact z hn
      · exact z hni
    | _ => rw [hni] at b4; cases b4
  | _ => rw [hn] at b3; cases b3
theorem end_lt {t : Tr} (hf : faultOf t = none) {k i j : Nat} (hi : i < t.length) (hk : (Tr.at t k).nm.takes = true) (hki : k < i) (hb : blk t k i = true) (h : endO t k = some j) : j < i := by
  by_cases hij : j < i
  · exact hij
  · exact (no_end hf hi hki hb fun m a b => of_decide_eq_false (first_min _ _ _ _ h m (by omega) (by omega))).elim
theorem end_ex {t : Tr} (hf : faultOf t = none) {k i : Nat} (hi : i < t.length) (hki : k < i) (hb : blk t k i = true) : ∃ j, endO t k = some j := by
  cases h : endO t k with
  | some j => exact ⟨j, rfl⟩
  | none =>
    refine (no_end hf hi hki hb fun m a b z => ?_).elim
    unfold endO at h
    rw [List.head?_eq_none_iff, List.filter_eq_nil_iff] at h
    exact h m (List.mem_range'.mpr ⟨m - (k + 1), by omega, by omega⟩) (decide_eq_true z)
theorem back_of {t : Tr} (hf : faultOf t = none) : Back t := fun i hi j hj => by
  unfold preds at hj
  obtain ⟨o, ho, e⟩ := List.mem_filterMap.mp hj
  have e : o = some j := e
  subst e
  rcases List.mem_append.mp ho with z | z
  · rcases List.mem_append.mp z with y | y
    · exact prev_lt hf hi (List.mem_singleton.mp y).symm
    · by_cases hn : (Tr.at t i).nm = .jn
      · rw [if_pos hn] at y
        exact join_lt hf hi hn (List.mem_singleton.mp y).symm
      · rw [if_neg hn] at y
        cases y
  · obtain ⟨k, hk, e⟩ := List.mem_map.mp z
    rw [List.mem_filter, Bool.and_eq_true, decide_eq_true_iff] at hk
    exact end_lt hf hi (takers_mem.mp hk.1).2 hk.2.1 hk.2.2 e
theorem valid_of {t : Tr} (h1 : ∀ e ∈ t, e.ok) (h2 : faultOf t = none) (h3 : t.length ≤ 100000) : ValidT t := ⟨⟨h1, h3⟩, h2, back_of h2⟩
end DL
namespace DL
open PySem PySem.Spec L2
section
variable {t : Tr}
theorem up_get (t : Tr) (n j : Nat) (h : j < n) : (pastsUp t n).getD j [] = pastOf (pastsUp t j) (preds t j) := by
  induction n with
  | zero => omega
  | succ n ih =>
    rw [show pastsUp t (n + 1) = pastsUp t n ++ [pastOf (pastsUp t n) (preds t n)] from rfl, List.getD_eq_getElem?_getD]
    by_cases e : j < n
    · rw [List.getElem?_append_left (by rw [pastsUp_len]; exact e), ← List.getD_eq_getElem?_getD]
      exact ih e
    · have e2 : j = n := by omega
      subst e2
      rw [List.getElem?_append_right (by rw [pastsUp_len]; exact Nat.le_refl _), pastsUp_len, Nat.sub_self]
      rfl
/-- what came before an event -/
def past (t : Tr) (j : Nat) : List (Int × Unit) := pastOf (pastsUp t j) (preds t j)
theorem pasts_get {j : Nat} (h : j < t.length) : (pasts t).getD j [] = past t j := up_get t _ j h
theorem past_few (hb : Back t) {j : Nat} (h : j < t.length) : Few j (past t j) := few_past (few_up t j fun i hi => hb i (by omega)) (fun i hi => hb j h i hi) (Few.nil j)
theorem keys_of (found : List (List (Int × Unit))) (x : Int) : ∀ (js : List Nat) (l : List (Int × Unit)), x ∈ akeys (js.foldl (fun l (j : Nat) => amerge (aput l (j : Int) ()) (found.getD j [])) l) ↔ x ∈ akeys l ∨ ∃ p ∈ js, x = (p : Int) ∨ x ∈ akeys (found.getD p [])
  | [], l => by simp
  | j :: js, l => by
    rw [List.foldl_cons, keys_of found x js, akeys_merge_mem, akeys_put_mem]
    constructor
    · rintro (((h | h) | h) | ⟨p, h1, h2⟩)
      · exact .inl h
      · exact .inr ⟨j, List.mem_cons_self, .inl h⟩
      · exact .inr ⟨j, List.mem_cons_self, .inr h⟩
      · exact .inr ⟨p, List.mem_cons_of_mem _ h1, h2⟩
    · rintro (h | ⟨p, h1, h2⟩)
      · exact .inl (.inl (.inl h))
      · rcases List.mem_cons.mp h1 with e | e
        · subst e
          rcases h2 with h2 | h2
          · exact .inl (.inl (.inr h2))
          · exact .inl (.inr h2)
        · exact .inr ⟨p, e, h2⟩
/-- i is known before j -/
def Bef (t : Tr) (i j : Nat) : Prop := (i : Int) ∈ akeys (past t j)
theorem bef_iff (hb : Back t) {i j : Nat} (h : j < t.length) : Bef t i j ↔ ∃ p ∈ preds t j, i = p ∨ Bef t i p := by
  unfold Bef past pastOf
  rw [keys_of]
  constructor
  · rintro (z | ⟨p, h1, h2⟩)
    · simp [akeys] at z
    · refine ⟨p, h1, h2.imp (fun z => by omega) fun z => ?_⟩
      rw [up_get t j p (hb j h p h1)] at z
      exact z
  · rintro ⟨p, h1, h2⟩
    refine .inr ⟨p, h1, h2.imp (fun z => by omega) fun z => ?_⟩
    rw [up_get t j p (hb j h p h1)]
    exact z
theorem bef_lt (hb : Back t) {i j : Nat} (h : j < t.length) (hB : Bef t i j) : i < j := by
  obtain ⟨k, a, b⟩ := (past_few hb h).2 _ hB
  omega
theorem bef_trans (hb : Back t) {i p : Nat} (h1 : Bef t i p) : ∀ (n j : Nat), j ≤ n → j < t.length → Bef t p j → Bef t i j := fun n => by
  induction n with
  | zero =>
    intro j hj hl h2
    have := bef_lt hb hl h2
    omega
  | succ n ih =>
    intro j hj hl h2
    obtain ⟨q, a, b⟩ := (bef_iff hb hl).mp h2
    have hq := hb j hl q a
    refine (bef_iff hb hl).mpr ⟨q, a, .inr ?_⟩
    rcases b with b | b
    · rw [← b]; exact h1
    · exact ih q (by omega) (by omega) b
theorem bef_prev (hb : Back t) {i j : Nat} (h : j < t.length) (hp : prevO t j = some i) : Bef t i j := by
  refine (bef_iff hb h).mpr ⟨i, ?_, .inl rfl⟩
  unfold preds
  exact List.mem_filterMap.mpr ⟨some i, List.mem_append_left _ (List.mem_append_left _ (by rw [hp]; simp)), rfl⟩
/-- the last of a filtered range is the greatest -/
theorem last_max (p : Nat → Bool) : ∀ (n j : Nat), ((List.range n).filter p).getLast? = some j → ∀ i, i < n → p i = true → i ≤ j
  | 0, j, h => by simp at h
  | n + 1, j, h => by
    rw [List.range_succ, List.filter_append] at h
    intro i hi hp
    by_cases hn : p n = true
    · have e : ([n].filter p) = [n] := by simp [hn]
      rw [e, List.getLast?_append] at h
      have : n = j := Option.some.inj h
      omega
    · have e : ([n].filter p) = [] := by simp [hn]
      rw [e, List.append_nil] at h
      have hin : i ≠ n := fun z => by rw [z] at hp; exact hn hp
      exact last_max p n j h i (by omega) hp
theorem evs_take {i : Nat} {th : Int} (h : i ≤ t.length) : evs (t.take i) th = (List.range i).filter fun k => decide ((Tr.at t k).th = th) := by
  unfold evs
  rw [List.length_take, Nat.min_eq_left h]
  refine List.filter_congr fun k hk => ?_
  rw [Tr.at_take (List.mem_range.mp hk)]
/-- a thread's earlier events are known -/
theorem bef_thread (hb : Back t) : ∀ (n i j : Nat), j ≤ n → j < t.length → i < j → (Tr.at t i).th = (Tr.at t j).th → Bef t i j := fun n => by
  induction n with
  | zero => intro i j hj _ hij; omega
  | succ n ih =>
    intro i j hj hl hij hth
    have hm : i ∈ evs (t.take j) (Tr.at t j).th := by
      rw [evs_take (by omega)]
      exact List.mem_filter.mpr ⟨List.mem_range.mpr hij, decide_eq_true hth⟩
    cases hlast : (evs (t.take j) (Tr.at t j).th).getLast? with
    | none =>
      rw [List.getLast?_eq_none_iff] at hlast
      rw [hlast] at hm
      cases hm
    | some y =>
      have hp : prevO t j = some y := by
        unfold prevO
        rw [hlast]
      have hB := bef_prev hb hl hp
      have hyj := bef_lt hb hl hB
      have hy := (evs_mem.mp (last_mem hlast))
      rw [evs_take (by omega)] at hlast
      have hy2 := List.mem_filter.mp (last_mem hlast)
      have hyt := of_decide_eq_true hy2.2
      have hle := last_max _ _ _ hlast i hij (decide_eq_true hth)
      by_cases e : i = y
      · rw [e]; exact hB
      · exact bef_trans hb (ih i y (by omega) (by omega) (by omega) (by rw [hth, hyt])) j j (Nat.le_refl _) hl hB
/-- what is known at an event -/
def known (t : Tr) (j : Nat) : List Nat := (List.range t.length).filter fun i => decide (i = j) || (alook ((pasts t).getD j []) (i : Int)).isSome
theorem alook_some {α : Type} (l : List (Int × α)) (k : Int) : (alook l k).isSome = true ↔ k ∈ akeys l := by
  unfold alook akeys
  rw [Option.isSome_map, List.find?_isSome]
  constructor
  · rintro ⟨p, h1, h2⟩
    exact List.mem_map.mpr ⟨p, h1, of_decide_eq_true h2⟩
  · intro h
    obtain ⟨p, h1, h2⟩ := List.mem_map.mp h
    exact ⟨p, h1, decide_eq_true h2⟩
theorem known_mem {i j : Nat} (h : j < t.length) : i ∈ known t j ↔ i < t.length ∧ (i = j ∨ Bef t i j) := by
  unfold known Bef
  rw [List.mem_filter, List.mem_range, Bool.or_eq_true, decide_eq_true_iff, alook_some, pasts_get h]
theorem known_nd (j : Nat) : (known t j).Nodup := List.Pairwise.filter _ List.nodup_range
/-- the number of a thread's events among what is known -/
theorem count_known (hb : Back t) {j : Nat} (h : j < t.length) (th : Int) : (knownTh t j).count th = ((known t j).filter fun i => decide ((Tr.at t i).th = th)).length := by
  have few := past_few hb h
  have hp : (known t j).Perm ((akeys (past t j)).map Int.toNat ++ [j]) := by
    refine (List.perm_ext_iff_of_nodup (known_nd j) ?_).mpr fun i => ?_
    · refine List.nodup_append.mpr ⟨?_, by simp, fun a ha b hb2 e => ?_⟩
      · refine List.pairwise_map.mpr (List.Pairwise.imp_of_mem (fun {a b} ha hb2 hab e => ?_) few.1)
        obtain ⟨x, _, ex⟩ := few.2 a ha
        obtain ⟨y, _, ey⟩ := few.2 b hb2
        rw [ex, ey] at e hab
        have e : x = y := e
        exact hab (by rw [e])
      · obtain ⟨x, hx, ex⟩ := List.mem_map.mp ha
        obtain ⟨y, hy, ey⟩ := few.2 x hx
        rw [List.mem_singleton.mp hb2] at e
        rw [ey] at ex
        have ex : y = a := ex
        omega
    · rw [known_mem h, List.mem_append, List.mem_singleton, List.mem_map]
      constructor
      · rintro ⟨h1, h2 | h2⟩
        · exact .inr h2
        · exact .inl ⟨(i : Int), h2, rfl⟩
      · rintro (⟨x, hx, ex⟩ | h2)
        · obtain ⟨y, hy, ey⟩ := few.2 x hx
          rw [ey] at ex hx
          have ex : y = i := ex
          subst ex
          exact ⟨by omega, .inr hx⟩
        · exact ⟨by omega, .inl h2⟩
  have e1 : knownTh t j = ((akeys (past t j)).map Int.toNat ++ [j]).map fun i => (Tr.at t i).th := by
    unfold knownTh akeys
    rw [pasts_get h, List.map_append, List.map_map, List.map_map]
    rfl
  rw [e1, ← (hp.map fun i => (Tr.at t i).th).count_eq, List.count_eq_countP, List.countP_map, List.countP_eq_length_filter]
  congr 1
/-- a clock tells whether an event is known -/
theorem clock_tells (hb : Back t) {i j : Nat} (hi : i < t.length) (hj : j < t.length) : decide ((((evs (t.take (i + 1)) (Tr.at t i).th).length : Nat) : Int) ≤ (((knownTh t j).count (Tr.at t i).th : Nat) : Int)) = decide (i ∈ known t j) := by
  rw [count_known hb hj, evs_take (by omega)]
  refine decide_eq_decide.mpr ⟨fun hle => ?_, fun hk => ?_⟩
  · by_cases hk : i ∈ known t j
    · exact hk
    · exfalso
      have hsub : ((known t j).filter fun k => decide ((Tr.at t k).th = (Tr.at t i).th)) ⊆ (List.range i).filter fun k => decide ((Tr.at t k).th = (Tr.at t i).th) := fun x hx => by
        obtain ⟨h1, h2⟩ := List.mem_filter.mp hx
        refine List.mem_filter.mpr ⟨List.mem_range.mpr ?_, h2⟩
        have h2 := of_decide_eq_true h2
        obtain ⟨h3, h4⟩ := (known_mem hj).mp h1
        by_cases hlt : x < i
        · exact hlt
        · exfalso
          by_cases e : x = i
          · subst e
            exact hk h1
          · have hB := bef_thread hb x i x (Nat.le_refl _) h3 (by omega) h2.symm
            refine hk ((known_mem hj).mpr ⟨hi, .inr ?_⟩)
            rcases h4 with h4 | h4
            · rw [← h4]; exact hB
            · exact bef_trans hb hB j j (Nat.le_refl _) hj h4
      have hlen := List.Nodup.length_le_of_subset (List.Pairwise.filter _ (known_nd j)) hsub
      rw [List.range_succ, List.filter_append, List.length_append] at hle
      have e1 : ([i].filter fun k => decide ((Tr.at t k).th = (Tr.at t i).th)).length = 1 := by simp
      rw [e1] at hle
      omega
  · have hsub : ((List.range (i + 1)).filter fun k => decide ((Tr.at t k).th = (Tr.at t i).th)) ⊆ (known t j).filter fun k => decide ((Tr.at t k).th = (Tr.at t i).th) := fun x hx => by
      obtain ⟨h1, h2⟩ := List.mem_filter.mp hx
      have h1 := List.mem_range.mp h1
      refine List.mem_filter.mpr ⟨?_, h2⟩
      have h2 := of_decide_eq_true h2
      by_cases e : x = i
      · rw [e]; exact hk
      · have hB := bef_thread hb i x i (Nat.le_refl _) hi (by omega) h2
        obtain ⟨_, h4⟩ := (known_mem hj).mp hk
        refine (known_mem hj).mpr ⟨by omega, .inr ?_⟩
        rcases h4 with h4 | h4
        · rw [← h4]; exact hB
        · exact bef_trans hb hB j j (Nat.le_refl _) hj h4
    have hlen := List.Nodup.length_le_of_subset (List.Pairwise.filter _ List.nodup_range) hsub
    omega
end
end DL
namespace DL
open PySem PySem.Spec L2
theorem sc__law_trace : FnScope ["pot", "most", "size", "events", "turn", "event"] ["pot", "most", "size"] (defScope s__law_trace) := ⟨rfl, rfl, rfl, by decide +kernel, rfl, by decide +kernel, by decide +kernel⟩
/-- a trace as the law draws it -/
def GoodT (most : Int) (t : Tr) : Prop := (∀ e ∈ t, e.ok) ∧ faultOf t = none ∧ (t.length : Int) ≤ most
abbrev sp__law_trace (K : PySem.W.Frag) : Sp := spPG K potK (fun x : Int × Int × Int × Int => [.int x.1, .tup [.int x.2.1, .int x.2.2.1, .int x.2.2.2]]) (fun x => (0 ≤ x.1 ∧ x.1 ≤ 1000) ∧ (0 < x.2.1 ∧ x.2.1 < 1073741824) ∧ (0 < x.2.2.1 ∧ x.2.2.1 < 1073741824) ∧ (0 < x.2.2.2 ∧ x.2.2.2 < 1073741824)) (fun x d => ∃ t : Tr, d = encT t ∧ GoodT x.1 t)
def t__law_trace (K : PySem.W.Frag) : TS := (tSeq (tAsg (tTup tNil) (gName 3)) (tSeq (tFor (iRng1 (tCons (tOp (rAddA K) (tCall (sp__law_draw K) [] E0 (tCons (tVar 0) (tCons (tOp (rAddA K) (tVar 1) (tC (.int 1))) tNil))) (tOp (rI CDiv fun i j => .int (i / j)) (tVar 1) (tC (.int 2)))) tNil)) (gName 4) (tSeq (tAsg (tCall (sp__law_event K) [] E0 (tCons (tVar 0) (tCons (tVar 3) (tCons (tVar 2) tNil)))) (gName 5)) (tIfS (tAnd (tTest (tOp (rI0 fun i j => .bl (decide (i < j))) (tCB (rLen K) (tCons (tVar 3) tNil)) (tVar 1))) (tB (tCall (sp__law_free K) [] E0 (tCons (tVar 3) (tCons (tVar 5) tNil))))) (tAsg (tOp (rAddA K) (tVar 3) (tTup (tCons (tVar 5) tNil))) (gName 3)) tNext))) (tRet (tVar 3))))
theorem run__law_trace {K : PySem.W.Frag} (x : Int × Int × Int × Int) (a : Addr) (d0 : Dt) (hx : (0 ≤ x.1 ∧ x.1 ≤ 1000) ∧ (0 < x.2.1 ∧ x.2.1 < 1073741824) ∧ (0 < x.2.2.1 ∧ x.2.2.1 < 1073741824) ∧ (0 < x.2.2.2 ∧ x.2.2.2 < 1073741824)) (hk : potK d0) :
    Runs K (t__law_trace K) [.own (some a) d0, .dat (.int x.1), .dat (.tup [.int x.2.1, .int x.2.2.1, .int x.2.2.2]), .un, .un, .un]
    { nx := fun ρ' => (∃ t : Tr, Dt.non = encT t ∧ GoodT x.1 t) ∧ ∃ d1, potK d1 ∧ ρ'[0]? = some (.own (some a) d1), rt := fun d ρ' => (∃ t : Tr, d = encT t ∧ GoodT x.1 t) ∧ ∃ d1, potK d1 ∧ ρ'[0]? = some (.own (some a) d1) } := by
  obtain ⟨most, s0, s1, s2⟩ := x
  obtain ⟨hm, h0, h1, h2⟩ := hx
  have hm : 0 ≤ most ∧ most ≤ 1000 := hm
  refine q_set (ev_tup ea_nil (by decide)) ?_
  refine r_seq (r_forG (sl := [4]) (ig_rng1 (ag_cons (eg_op (eg_callP (most + 1) rfl hk (ea_cons (ev_op (ev_var rfl) ev_int rv_addI) ea_nil) ⟨by omega, by omega⟩ fun z d1 hz hk1 => ?_)))))
  obtain ⟨r, rfl, hr⟩ := hz
  refine eg_ev (ev_op (ev_var rfl) ev_int (rv_fdiv ⟨by decide, by decide⟩)) ⟨_, rv_addI, ag_nil ⟨_, rfl, by omega, ?_⟩⟩
  refine ⟨fun k ρ => ∃ (d2 : Dt) (t : Tr) (s4 s5 : Sl), potK d2 ∧ GoodT most t ∧ ρ = [.own (some a) d2, .dat (.int most), .dat (.tup [.int s0, .int s1, .int s2]), .dat (encT t), s4, s5], ⟨d1, [], .un, .un, hk1, ⟨fun e he => by simp at he, rfl, hm.1⟩, rfl⟩, ?_, ?_⟩
  · intro k d ρ2 hd ⟨d2, t, s4, s5, hk2, ht, e⟩
    subst e
    obtain ⟨g1, g2, g3⟩ := id ht
    have hl : t.length < 100000 := by omega
    refine ⟨_, tg_name, q_setG (eg_callP (t, s0, s1, s2) rfl hk2 (ea_cons (ev_var rfl) (ea_cons (ev_var rfl) ea_nil)) ⟨⟨hl, g1⟩, h0, h1, h2⟩ fun e d3 he hk3 => ?_)⟩
    obtain ⟨ev, rfl, hev⟩ := he
    refine r_if (b := decide ((t.length : Int) < most) && lfree t ev) (et_and (et_test (ev_op ((ev_cb1 (ev_var rfl).rd rc_lenT).is (by rw [List.length_map])) (ev_var rfl) rv_B0)) fun _ => et_B (ev_call ((t, ev) : Tr × Evt) (ea_cons (ev_var rfl) (ea_cons (ev_var rfl) ea_nil)) hl)) (fun e => ?_) fun e => ?_
    · rw [Bool.and_eq_true] at e
      have el := of_decide_eq_true e.1
      refine r_asg (d := encT (t ++ [ev])) (Ev.is (ev_op (ev_var rfl) (ev_tup (ea_cons (ev_var rfl) ea_nil) (show 1 ≤ sizeLine by decide)) (rv_addT ?_)) ?_) ⟨d3, t ++ [ev], _, _, hk3, ⟨fun o ho => ?_, fault_snoc g2 (can_of_free e.2), ?_⟩, rfl⟩
      · rw [List.length_map]
        show t.length + 1 ≤ sizeLine
        unfold sizeLine
        omega
      · unfold encT
        rw [List.map_append]
        rfl
      · rcases List.mem_append.mp ho with z | z
        · exact g1 o z
        · rw [List.mem_singleton.mp z]
          exact hev
      · rw [List.length_append, List.length_singleton]
        omega
    · exact r_next ⟨d3, t, _, _, hk3, ht, rfl⟩
  · intro ρ2 ⟨d2, t, s4, s5, hk2, ht, e⟩
    subst e
    exact r_ret (ev_var rfl) ⟨⟨t, rfl, ht⟩, d2, hk2, rfl⟩
theorem ok__law_trace {P : Program} {w : World} {K : PySem.W.Frag} {mg : Str → Option Value} {base : Heap} (T : Txt w K mg) : Def P w K mg base "_law_trace" ["pot", "most", "size"] 12 (sp__law_trace K) := by
  obtain ⟨f, fd, F, gl⟩ := T.fn__law_trace
  exact ⟨f, fd, gl, F.kp, FunD.bindsN F (fun _ _ _ _ _ _ us hl => match us, hl with | [_, _, _], _ => rfl), fn_pg F sc__law_trace (fun _ => rfl) (t__law_trace K) (fun cdv A outer s H E hr => (pss_cons (ps_set (i := 3) sc__law_trace.nd rfl (by first | exact Or.inl rfl | exact Or.inr rfl) (pe_tup pa_nil)) (pss_cons (ps_for PassesOwn.never rfl (pi_range1 (by rfl) T.b_range (pa_cons (pe_op op_addA (pe_callD (ok__law_draw T) hr (by decide) (by rfl) (pa_cons (pv 0) (pa_cons (pe_op op_addA (pv 1) pe_int) pa_nil))) (pe_op op_fdiv (pv 1) pe_int)) pa_nil)) (pg_name (i := 4) sc__law_trace.nd rfl (by first | exact Or.inl rfl | exact Or.inr rfl)) (pss_cons (ps_set (i := 5) sc__law_trace.nd rfl (by first | exact Or.inl rfl | exact Or.inr rfl) (pe_callD (ok__law_event T) hr (by decide) (by rfl) (pa_cons (pv 0) (pa_cons (pv 3) (pa_cons (pv 2) pa_nil))))) (pss_one (ps_if (PW.pt (pw_and (pt_cmpR op_lt (pe_callB call_len (by rfl) T.b_len (by decide +kernel) (pa_cons (pv 3) pa_nil)) (pv 1) (nomark _)) (pw_and1 (pt_val (pe_callD (ok__law_free T) hr (by decide) (by rfl) (pa_cons (pv 3) (pa_cons (pv 5) pa_nil))))))) (pss_one (ps_set (i := 3) sc__law_trace.nd rfl (by first | exact Or.inl rfl | exact Or.inr rfl) (pe_op op_addA (pv 3) (pe_tup (pa_cons (pv 5) pa_nil))))) pss_nil)))) (pss_one (ps_ret (pv 3)))))) (by decide) (fun x a d0 hx hk => run__law_trace x a d0 hx hk)⟩
end DL
namespace DL
open PySem PySem.Spec L2
theorem sc_thread_of : FnScope ["trace", "event"] ["trace", "event"] (defScope s_thread_of) := ⟨rfl, rfl, rfl, by decide +kernel, rfl, by decide +kernel, by decide +kernel⟩
abbrev sp_thread_of (K : PySem.W.Frag) : Sp := spD K (fun x : Tr × Nat => [encT x.1, natD x.2]) (fun x => x.2 < x.1.length) (fun x => .int (Tr.at x.1 x.2).th)
def t_thread_of (K : PySem.W.Frag) : TS := (tRet (tOp (rIx K) (tOp (rIx K) (tVar 0) (tVar 1)) (tC (.int 0))))
theorem run_thread_of {K : PySem.W.Frag} (x : Tr × Nat) (hx : x.2 < x.1.length) : Runs K (t_thread_of K) [.dat (encT x.1), .dat (natD x.2)] { nx := fun _ => (.int (Tr.at x.1 x.2).th : Dt) = .non, rt := fun e _ => e = .int (Tr.at x.1 x.2).th } := by
  exact r_ret (ev_th (ev_at (ev_var rfl) (ev_var rfl) hx)) rfl
theorem ok_thread_of {P : Program} {w : World} {K : PySem.W.Frag} {mg : Str → Option Value} {base : Heap} (T : Txt w K mg) : Def P w K mg base "thread_of" ["trace", "event"] 1 (sp_thread_of K) := by
  obtain ⟨f, fd, F, gl⟩ := T.fn_thread_of
  exact ⟨f, fd, gl, F.kp, FunD.bindsN F (fun _ _ _ _ _ _ us hl => match us, hl with | [_, _], _ => rfl), fn_f F sc_thread_of (fun _ => rfl) (t_thread_of K) (fun cdv A outer s H E hr => (pss_one (ps_ret (pe_ix ix_seq (pe_ix ix_seq (pv 0) (pv 1) (fun _ _ => rfl)) pe_int (fun _ _ => rfl))))) (by decide) (fun x hx => run_thread_of x hx)⟩
end DL
namespace DL
open PySem PySem.Spec L2
theorem sc_events_by : FnScope ["trace", "thread", "index", "event"] ["trace", "thread"] (defScope s_events_by) := ⟨rfl, rfl, rfl, by decide +kernel, rfl, by decide +kernel, by decide +kernel⟩
abbrev sp_events_by (K : PySem.W.Frag) : Sp := spD K (fun x : Tr × Int => [encT x.1, .int x.2]) (fun x => x.1.length ≤ 100000) (fun x => .lst (nsD (evs x.1 x.2)))
def t_events_by (K : PySem.W.Frag) : TS := (tRet (tLc (iEnumA K (tCons (tVar 0) tNil)) (gTup K 2 (gCons (gName 2) (gCons (gName 3) gNil))) (tTest (tOp (rEqA K) (tOp (rIx K) (tVar 3) (tC (.int 0))) (tVar 1))) (tVar 2) [2, 3]))
theorem run_events_by {K : PySem.W.Frag} (x : Tr × Int) (hx : x.1.length ≤ 100000) : Runs K (t_events_by K) [.dat (encT x.1), .dat (.int x.2), .un, .un] { nx := fun _ => (.lst (nsD (evs x.1 x.2)) : Dt) = .non, rt := fun e _ => e = .lst (nsD (evs x.1 x.2)) } := by
  obtain ⟨t, th⟩ := x
  have hx : t.length ≤ 100000 := hx
  refine r_ret (en_lcM (fun i => encI i (encE (Tr.at t i))) (List.range t.length) (fun i => decide ((Tr.at t i).th = th)) natD ((ei_enumT (ea_cons (ev_var rfl) ea_nil)).is (enum_range t)).r (fun i hi => ?_) (by rw [List.length_range]; unfold sizeLine; omega)).ev rfl
  exact ⟨_, _, fun _ h => h, tg_tup (tgs_cons tg_name (tgs_cons tg_name tgs_nil)) rfl, et_test (ev_op (ev_th (ev_var rfl)) (ev_var rfl) rv_eqAI), fun _ => ev_var rfl⟩
theorem ok_events_by {P : Program} {w : World} {K : PySem.W.Frag} {mg : Str → Option Value} {base : Heap} (T : Txt w K mg) : Def P w K mg base "events_by" ["trace", "thread"] 1 (sp_events_by K) := by
  obtain ⟨f, fd, F, gl⟩ := T.fn_events_by
  exact ⟨f, fd, gl, F.kp, FunD.bindsN F (fun _ _ _ _ _ _ us hl => match us, hl with | [_, _], _ => rfl), fn_f F sc_events_by (fun _ => rfl) (t_events_by K) (fun cdv A outer s H E hr => (pss_one (ps_ret (pe_lc (own := [("index", 2), ("event", 3)]) rfl sc_events_by.nd (pi_enumA (by rfl) T.b_enumerate (pa_cons (pv 0) pa_nil)) (blkOk_by (by kernel_rfl)) (fun _ _ _ _ _ => (pg_tup rfl (pgs_cons (pg_name (i := 2) sc_events_by.nd rfl (by first | exact Or.inl rfl | exact Or.inr rfl)) (pgs_cons (pg_name (i := 3) sc_events_by.nd rfl (by first | exact Or.inl rfl | exact Or.inr rfl)) pgs_nil)))) (fun _ _ _ _ _ => (pts_one (pt_cmpR (op_eqA (hu65 hr)) (pe_ix ix_seq (pv 3) pe_int (fun _ _ => rfl)) (pv 1) (nomark _)))) (fun _ _ _ _ _ => (pv 2)))))) (by decide) (fun x hx => run_events_by x hx)⟩
end DL
namespace DL
open PySem PySem.Spec L2
theorem sc_fork_by : FnScope ["trace", "thread", "forks", "index", "event"] ["trace", "thread"] (defScope s_fork_by) := ⟨rfl, rfl, rfl, by decide +kernel, rfl, by decide +kernel, by decide +kernel⟩
abbrev sp_fork_by (K : PySem.W.Frag) : Sp := spD K (fun x : Tr × Int => [encT x.1, .int x.2]) (fun x => x.1.length ≤ 100000) (fun x => optD (forkO x.1 x.2))
def t_fork_by (K : PySem.W.Frag) : TS := (tSeq (tAsg (tLc (iEnumA K (tCons (tVar 0) tNil)) (gTup K 2 (gCons (gName 3) (gCons (gName 4) gNil))) (tTest (tOp (rEqA K) (tSl (rSlX K) (tVar 4) (tPart (tC (.int 1))) tNoPart) (tTup (tCons (tC (.str "fork")) (tCons (tVar 1) tNil))))) (tVar 3) [3, 4]) (gName 2)) (tRet (tIf (tTest (tOp (rNeA K) (tVar 2) (tLst tNil))) (tOp (rIx K) (tVar 2) (tC (.int 0))) (tC .non))))
theorem run_fork_by {K : PySem.W.Frag} (x : Tr × Int) (hx : x.1.length ≤ 100000) : Runs K (t_fork_by K) [.dat (encT x.1), .dat (.int x.2), .un, .un, .un] { nx := fun _ => (optD (forkO x.1 x.2) : Dt) = .non, rt := fun e _ => e = optD (forkO x.1 x.2) } := by
  obtain ⟨t, v⟩ := x
  have hx : t.length ≤ 100000 := hx
  refine q_set (en_lcM (fun i => encI i (encE (Tr.at t i))) (List.range t.length) (fun i => decide ((Tr.at t i).nm = .frk) && decide ((Tr.at t i).tg = v)) natD ((ei_enumT (ea_cons (ev_var rfl) ea_nil)).is (enum_range t)).r (fun i hi => ?_) (by rw [List.length_range]; unfold sizeLine; omega)).ev ?_
  · refine ⟨_, _, fun _ h => h, tg_tup (tgs_cons tg_name (tgs_cons tg_name tgs_nil)) rfl, et_test ((ev_op ((ev_slT (ev_var rfl) (eo_part (i := ((1 : Nat) : Int)) ev_int) eo_no).is (congrArg Dt.tup (cutD_from _ 1))) (ev_tup (ea_cons ev_str (ea_cons (ev_var rfl) ea_nil)) (show 2 ≤ sizeLine by decide)) (rv_eqD (n := 1) (m := 1) ?_ ?_)).is ?_), fun _ => ev_var rfl⟩
    · show lay 1 (.tup [.str (Tr.at t i).nm.s, .int (Tr.at t i).tg]) = true
      rw [lay, lays, lays, lays, lay_nm, lay_int]
      rfl
    · show lay 1 (.tup [.str Nm.frk.s, .int v]) = true
      rw [lay, lays, lays, lays, lay_nm, lay_int]
      rfl
    · show Dt.bl (deq (.tup [.str (Tr.at t i).nm.s, .int (Tr.at t i).tg]) (.tup [.str Nm.frk.s, .int v])) = _
      rw [deq_tupC, deq_tupC, deq_tupN, deq_int, deq_str, Nm.dec, Bool.and_true]
  · refine r_ret ((ev_first rfl fun _ => ev_non).is ?_) rfl
    show _ = optD (forkO t v)
    unfold forkO
    cases List.head? _ <;> rfl
theorem ok_fork_by {P : Program} {w : World} {K : PySem.W.Frag} {mg : Str → Option Value} {base : Heap} (T : Txt w K mg) : Def P w K mg base "fork_by" ["trace", "thread"] 1 (sp_fork_by K) := by
  obtain ⟨f, fd, F, gl⟩ := T.fn_fork_by
  exact ⟨f, fd, gl, F.kp, FunD.bindsN F (fun _ _ _ _ _ _ us hl => match us, hl with | [_, _], _ => rfl), fn_f F sc_fork_by (fun _ => rfl) (t_fork_by K) (fun cdv A outer s H E hr => (pss_cons (ps_setLc (i := 2) (own := [("index", 3), ("event", 4)]) rfl sc_fork_by.nd rfl rfl (sw_true rfl rfl rfl (by decide +kernel)) (pi_enumA (by rfl) T.b_enumerate (pa_cons (pv 0) pa_nil)) (blkOk_by (by kernel_rfl)) (fun _ _ _ _ _ => (pg_tup rfl (pgs_cons (pg_name (i := 3) sc_fork_by.nd rfl (by first | exact Or.inl rfl | exact Or.inr rfl)) (pgs_cons (pg_name (i := 4) sc_fork_by.nd rfl (by first | exact Or.inl rfl | exact Or.inr rfl)) pgs_nil)))) (fun _ _ _ _ _ => (pts_one (pt_cmpR (op_eqA (hu65 hr)) (pe_slice sl_any (pv 4) (po_some pe_int) po_none) (pe_tup (pa_cons (pe_gstr T.c_FORK rfl) (pa_cons (pv 1) pa_nil))) (nomark _)))) (fun _ _ _ _ _ => (pv 3))) (pss_one (ps_ret (pe_ifExp (pt_cmpR (op_neA (hu65 hr)) (pv 2) (pe_lst pa_nil) (nomark _)) (pe_ix ix_seq (pv 2) pe_int (fun _ _ => rfl)) pe_non))))) (by decide) (fun x hx => run_fork_by x hx)⟩
end DL
namespace DL
open PySem PySem.Spec L2
theorem sc_previous_by : FnScope ["trace", "event", "thread", "ahead"] ["trace", "event"] (defScope s_previous_by) := ⟨rfl, rfl, rfl, by decide +kernel, rfl, by decide +kernel, by decide +kernel⟩
abbrev sp_previous_by (K : PySem.W.Frag) : Sp := spD K (fun x : Tr × Nat => [encT x.1, natD x.2]) (fun x => x.1.length ≤ 100000 ∧ x.2 < x.1.length) (fun x => optD (prevO x.1 x.2))
def t_previous_by (K : PySem.W.Frag) : TS := (tSeq (tAsg (tCall (sp_thread_of K) [] E0 (tCons (tVar 0) (tCons (tVar 1) tNil))) (gName 2)) (tSeq (tAsg (tCall (sp_events_by K) [] E0 (tCons (tSl (rSlX K) (tVar 0) tNoPart (tPart (tVar 1))) (tCons (tVar 2) tNil))) (gName 3)) (tRet (tIf (tTest (tOp (rNeA K) (tVar 3) (tLst tNil))) (tOp (rIx K) (tVar 3) (tUn (rU fun i => .int (-i)) (tC (.int 1)))) (tCall (sp_fork_by K) [] E0 (tCons (tVar 0) (tCons (tVar 2) tNil)))))))
theorem run_previous_by {K : PySem.W.Frag} (x : Tr × Nat) (hx : x.1.length ≤ 100000 ∧ x.2 < x.1.length) : Runs K (t_previous_by K) [.dat (encT x.1), .dat (natD x.2), .un, .un] { nx := fun _ => (optD (prevO x.1 x.2) : Dt) = .non, rt := fun e _ => e = optD (prevO x.1 x.2) } := by
  obtain ⟨t, i⟩ := x
  obtain ⟨h1, h2⟩ := hx
  refine q_set (ev_call (t, i) (ea_cons (ev_var rfl) (ea_cons (ev_var rfl) ea_nil)) h2) (q_set (ev_call (t.take i, (Tr.at t i).th) (ea_cons ((ev_slT (ev_var rfl) eo_no (eo_part (ev_var rfl))).is ?_) (ea_cons (ev_var rfl) ea_nil)) (by show (t.take i).length ≤ 100000; rw [List.length_take]; omega)) (r_ret ((ev_last rfl fun _ => ev_call (t, (Tr.at t i).th) (ea_cons (ev_var rfl) (ea_cons (ev_var rfl) ea_nil)) h1).is ?_) rfl))
  · rw [cutD_to, encT_take]
    rfl
  · show _ = optD (prevO t i)
    unfold prevO
    cases List.getLast? _ <;> rfl
theorem ok_previous_by {P : Program} {w : World} {K : PySem.W.Frag} {mg : Str → Option Value} {base : Heap} (T : Txt w K mg) : Def P w K mg base "previous_by" ["trace", "event"] 2 (sp_previous_by K) := by
  obtain ⟨f, fd, F, gl⟩ := T.fn_previous_by
  exact ⟨f, fd, gl, F.kp, FunD.bindsN F (fun _ _ _ _ _ _ us hl => match us, hl with | [_, _], _ => rfl), fn_f F sc_previous_by (fun _ => rfl) (t_previous_by K) (fun cdv A outer s H E hr => (pss_cons (ps_set (i := 2) sc_previous_by.nd rfl (by first | exact Or.inl rfl | exact Or.inr rfl) (pe_callD (ok_thread_of T) hr (by decide) (by rfl) (pa_cons (pv 0) (pa_cons (pv 1) pa_nil)))) (pss_cons (ps_set (i := 3) sc_previous_by.nd rfl (by first | exact Or.inl rfl | exact Or.inr rfl) (pe_callD (ok_events_by T) hr (by decide) (by rfl) (pa_cons (pe_slice sl_any (pv 0) po_none (po_some (pv 1))) (pa_cons (pv 2) pa_nil)))) (pss_one (ps_ret (pe_ifExp (pt_cmpR (op_neA (hu65 hr)) (pv 3) (pe_lst pa_nil) (nomark _)) (pe_ix ix_seq (pv 3) (pe_un un_neg pe_int) (fun _ _ => rfl)) (pe_callD (ok_fork_by T) hr (by decide) (by rfl) (pa_cons (pv 0) (pa_cons (pv 2) pa_nil))))))))) (by decide) (fun x hx => run_previous_by x hx)⟩
end DL
namespace DL
open PySem PySem.Spec L2
theorem sc_name_of : FnScope ["trace", "event"] ["trace", "event"] (defScope s_name_of) := ⟨rfl, rfl, rfl, by decide +kernel, rfl, by decide +kernel, by decide +kernel⟩
abbrev sp_name_of (K : PySem.W.Frag) : Sp := spD K (fun x : Tr × Nat => [encT x.1, natD x.2]) (fun x => x.2 < x.1.length) (fun x => .str (Tr.at x.1 x.2).nm.s)
def t_name_of (K : PySem.W.Frag) : TS := (tRet (tOp (rIx K) (tOp (rIx K) (tVar 0) (tVar 1)) (tC (.int 1))))
theorem run_name_of {K : PySem.W.Frag} (x : Tr × Nat) (hx : x.2 < x.1.length) : Runs K (t_name_of K) [.dat (encT x.1), .dat (natD x.2)] { nx := fun _ => (.str (Tr.at x.1 x.2).nm.s : Dt) = .non, rt := fun e _ => e = .str (Tr.at x.1 x.2).nm.s } := by
  exact r_ret (ev_nm (ev_at (ev_var rfl) (ev_var rfl) hx)) rfl
theorem ok_name_of {P : Program} {w : World} {K : PySem.W.Frag} {mg : Str → Option Value} {base : Heap} (T : Txt w K mg) : Def P w K mg base "name_of" ["trace", "event"] 1 (sp_name_of K) := by
  obtain ⟨f, fd, F, gl⟩ := T.fn_name_of
  exact ⟨f, fd, gl, F.kp, FunD.bindsN F (fun _ _ _ _ _ _ us hl => match us, hl with | [_, _], _ => rfl), fn_f F sc_name_of (fun _ => rfl) (t_name_of K) (fun cdv A outer s H E hr => (pss_one (ps_ret (pe_ix ix_seq (pe_ix ix_seq (pv 0) (pv 1) (fun _ _ => rfl)) pe_int (fun _ _ => rfl))))) (by decide) (fun x hx => run_name_of x hx)⟩
end DL
namespace DL
open PySem PySem.Spec L2
theorem sc_target_of : FnScope ["trace", "event"] ["trace", "event"] (defScope s_target_of) := ⟨rfl, rfl, rfl, by decide +kernel, rfl, by decide +kernel, by decide +kernel⟩
abbrev sp_target_of (K : PySem.W.Frag) : Sp := spD K (fun x : Tr × Nat => [encT x.1, natD x.2]) (fun x => x.2 < x.1.length) (fun x => .int (Tr.at x.1 x.2).tg)
def t_target_of (K : PySem.W.Frag) : TS := (tRet (tOp (rIx K) (tOp (rIx K) (tVar 0) (tVar 1)) (tC (.int 2))))
theorem run_target_of {K : PySem.W.Frag} (x : Tr × Nat) (hx : x.2 < x.1.length) : Runs K (t_target_of K) [.dat (encT x.1), .dat (natD x.2)] { nx := fun _ => (.int (Tr.at x.1 x.2).tg : Dt) = .non, rt := fun e _ => e = .int (Tr.at x.1 x.2).tg } := by
  exact r_ret (ev_tg (ev_at (ev_var rfl) (ev_var rfl) hx)) rfl
theorem ok_target_of {P : Program} {w : World} {K : PySem.W.Frag} {mg : Str → Option Value} {base : Heap} (T : Txt w K mg) : Def P w K mg base "target_of" ["trace", "event"] 1 (sp_target_of K) := by
  obtain ⟨f, fd, F, gl⟩ := T.fn_target_of
  exact ⟨f, fd, gl, F.kp, FunD.bindsN F (fun _ _ _ _ _ _ us hl => match us, hl with | [_, _], _ => rfl), fn_f F sc_target_of (fun _ => rfl) (t_target_of K) (fun cdv A outer s H E hr => (pss_one (ps_ret (pe_ix ix_seq (pe_ix ix_seq (pv 0) (pv 1) (fun _ _ => rfl)) pe_int (fun _ _ => rfl))))) (by decide) (fun x hx => run_target_of x hx)⟩
end DL
namespace DL
open PySem PySem.Spec L2
theorem sc_accesses_by : FnScope ["trace", "variable", "index", "event"] ["trace", "variable"] (defScope s_accesses_by) := ⟨rfl, rfl, rfl, by decide +kernel, rfl, by decide +kernel, by decide +kernel⟩
abbrev sp_accesses_by (K : PySem.W.Frag) : Sp := spD K (fun x : Tr × Int => [encT x.1, .int x.2]) (fun x => x.1.length ≤ 100000) (fun x => .lst (nsD (accs x.1 x.2)))
def t_accesses_by (K : PySem.W.Frag) : TS := (tRet (tLc (iEnumA K (tCons (tVar 0) tNil)) (gTup K 2 (gCons (gName 2) (gCons (gName 3) gNil))) (tAnd (tTest (tOp (rInA K) (tOp (rIx K) (tVar 3) (tC (.int 1))) (tC (.ref (He.ga K "ACCESSES"))))) (tTest (tOp (rEqA K) (tOp (rIx K) (tVar 3) (tC (.int 2))) (tVar 1)))) (tVar 2) [2, 3]))
theorem run_accesses_by {w : World} {K : PySem.W.Frag} {mg : Str → Option Value} (T : Txt w K mg) (x : Tr × Int) (hx : x.1.length ≤ 100000) : Runs K (t_accesses_by K) [.dat (encT x.1), .dat (.int x.2), .un, .un] { nx := fun _ => (.lst (nsD (accs x.1 x.2)) : Dt) = .non, rt := fun e _ => e = .lst (nsD (accs x.1 x.2)) } := by
  obtain ⟨t, v⟩ := x
  have hx : t.length ≤ 100000 := hx
  refine r_ret (en_lcM (fun i => encI i (encE (Tr.at t i))) (List.range t.length) (fun i => (decide ((Tr.at t i).nm = .rd) || decide ((Tr.at t i).nm = .wr)) && decide ((Tr.at t i).tg = v)) natD ((ei_enumT (ea_cons (ev_var rfl) ea_nil)).is (enum_range t)).r (fun i hi => ?_) (by rw [List.length_range]; unfold sizeLine; omega)).ev rfl
  refine ⟨_, _, fun _ h => h, tg_tup (tgs_cons tg_name (tgs_cons tg_name tgs_nil)) rfl, et_and (et_test ((ev_op (ev_nm (ev_var rfl)) (ev_kt T.k_ACCESSES) (rv_in (.kt _) rfl rfl)).is ?_)) (fun _ => et_test (ev_op (ev_tg (ev_var rfl)) (ev_var rfl) rv_eqAI)), fun _ => ev_var rfl⟩
  cases (Tr.at t i).nm <;> rfl
theorem ok_accesses_by {P : Program} {w : World} {K : PySem.W.Frag} {mg : Str → Option Value} {base : Heap} (T : Txt w K mg) : Def P w K mg base "accesses_by" ["trace", "variable"] 1 (sp_accesses_by K) := by
  obtain ⟨f, fd, F, gl⟩ := T.fn_accesses_by
  exact ⟨f, fd, gl, F.kp, FunD.bindsN F (fun _ _ _ _ _ _ us hl => match us, hl with | [_, _], _ => rfl), fn_f F sc_accesses_by (fun _ => rfl) (t_accesses_by K) (fun cdv A outer s H E hr => (pss_one (ps_ret (pe_lc (own := [("index", 2), ("event", 3)]) rfl sc_accesses_by.nd (pi_enumA (by rfl) T.b_enumerate (pa_cons (pv 0) pa_nil)) (blkOk_by (by kernel_rfl)) (fun _ _ _ _ _ => (pg_tup rfl (pgs_cons (pg_name (i := 2) sc_accesses_by.nd rfl (by first | exact Or.inl rfl | exact Or.inr rfl)) (pgs_cons (pg_name (i := 3) sc_accesses_by.nd rfl (by first | exact Or.inl rfl | exact Or.inr rfl)) pgs_nil)))) (fun _ _ _ _ _ => (pts_one (PW.pt (pw_and (pt_cmpR (op_inA (hu65 hr)) (pe_ix ix_seq (pv 3) pe_int (fun _ _ => rfl)) (pe_glob rfl T.c_ACCESSES rfl) (by rfl)) (pw_and1 (pt_cmpR (op_eqA (hu65 hr)) (pe_ix ix_seq (pv 3) pe_int (fun _ _ => rfl)) (pv 1) (nomark _))))))) (fun _ _ _ _ _ => (pv 2)))))) (by decide) (fun x hx => run_accesses_by T x hx)⟩
end DL
namespace DL
open PySem PySem.Spec L2
theorem sc_write_by : FnScope ["trace", "event", "variable", "writes", "index"] ["trace", "event"] (defScope s_write_by) := ⟨rfl, rfl, rfl, by decide +kernel, rfl, by decide +kernel, by decide +kernel⟩
abbrev sp_write_by (K : PySem.W.Frag) : Sp := spD K (fun x : Tr × Nat => [encT x.1, natD x.2]) (fun x => x.1.length ≤ 100000 ∧ x.2 < x.1.length) (fun x => optD (writeO x.1 x.2))
def t_write_by (K : PySem.W.Frag) : TS := (tSeq (tAsg (tCall (sp_target_of K) [] E0 (tCons (tVar 0) (tCons (tVar 1) tNil))) (gName 2)) (tSeq (tAsg (tLc (iSeq K (tCall (sp_accesses_by K) [] E0 (tCons (tSl (rSlX K) (tVar 0) tNoPart (tPart (tVar 1))) (tCons (tVar 2) tNil)))) (gName 4) (tTest (tOp (rEqA K) (tCall (sp_name_of K) [] E0 (tCons (tVar 0) (tCons (tVar 4) tNil))) (tC (.str "write")))) (tVar 4) [4]) (gName 3)) (tRet (tIf (tTest (tOp (rNeA K) (tVar 3) (tLst tNil))) (tOp (rIx K) (tVar 3) (tUn (rU fun i => .int (-i)) (tC (.int 1)))) (tC .non)))))
theorem run_write_by {K : PySem.W.Frag} (x : Tr × Nat) (hx : x.1.length ≤ 100000 ∧ x.2 < x.1.length) : Runs K (t_write_by K) [.dat (encT x.1), .dat (natD x.2), .un, .un, .un] { nx := fun _ => (optD (writeO x.1 x.2) : Dt) = .non, rt := fun e _ => e = optD (writeO x.1 x.2) } := by
  obtain ⟨t, i⟩ := x
  obtain ⟨h1, h2⟩ := hx
  refine q_set (ev_call (t, i) (ea_cons (ev_var rfl) (ea_cons (ev_var rfl) ea_nil)) h2) (q_set (en_lcM natD (accs (t.take i) (Tr.at t i).tg) (fun j => decide ((Tr.at t j).nm = .wr)) natD (ei_seqL (ev_call (t.take i, (Tr.at t i).tg) (ea_cons ((ev_slT (ev_var rfl) eo_no (eo_part (ev_var rfl))).is ?_) (ea_cons (ev_var rfl) ea_nil)) (by show (t.take i).length ≤ 100000; rw [List.length_take]; omega))).r (fun j hj => ?_) ?_).ev (r_ret ((ev_last rfl fun _ => ev_non).is ?_) rfl))
  · rw [cutD_to, encT_take]
    rfl
  · have hj2 : j < t.length := by
      have := List.mem_range.mp (List.mem_filter.mp hj).1
      rw [List.length_take] at this
      omega
    refine ⟨_, _, fun _ h => h, tg_name, et_test ((ev_op (ev_call (t, j) (ea_cons (ev_var rfl) (ea_cons (ev_var rfl) ea_nil)) hj2) ev_str rv_eqAS).is ?_), fun _ => ev_var rfl⟩
    have := Nm.dec (Tr.at t j).nm .wr
    rw [← this]
    rfl
  · have : (accs (t.take i) (Tr.at t i).tg).length ≤ (List.range (t.take i).length).length := List.length_filter_le _ _
    rw [List.length_range, List.length_take] at this
    unfold sizeLine
    omega
  · show _ = optD (writeO t i)
    unfold writeO
    cases List.getLast? _ <;> rfl
theorem ok_write_by {P : Program} {w : World} {K : PySem.W.Frag} {mg : Str → Option Value} {base : Heap} (T : Txt w K mg) : Def P w K mg base "write_by" ["trace", "event"] 2 (sp_write_by K) := by
  obtain ⟨f, fd, F, gl⟩ := T.fn_write_by
  exact ⟨f, fd, gl, F.kp, FunD.bindsN F (fun _ _ _ _ _ _ us hl => match us, hl with | [_, _], _ => rfl), fn_f F sc_write_by (fun _ => rfl) (t_write_by K) (fun cdv A outer s H E hr => (pss_cons (ps_set (i := 2) sc_write_by.nd rfl (by first | exact Or.inl rfl | exact Or.inr rfl) (pe_callD (ok_target_of T) hr (by decide) (by rfl) (pa_cons (pv 0) (pa_cons (pv 1) pa_nil)))) (pss_cons (ps_setLc (i := 3) (own := [("index", 4)]) rfl sc_write_by.nd rfl rfl (sw_true rfl rfl rfl (by decide +kernel)) (pi_seq (pe_callD (ok_accesses_by T) hr (by decide) (by rfl) (pa_cons (pe_slice sl_any (pv 0) po_none (po_some (pv 1))) (pa_cons (pv 2) pa_nil)))) (blkOk_by (by kernel_rfl)) (fun _ _ _ _ _ => (pg_name (i := 4) sc_write_by.nd rfl (by first | exact Or.inl rfl | exact Or.inr rfl))) (fun _ _ _ _ _ => (pts_one (pt_cmpR (op_eqA (hu65 hr)) (pe_callD (ok_name_of T) hr (by decide) (by rfl) (pa_cons (pv 0) (pa_cons (pv 4) pa_nil))) (pe_gstr T.c_WRITE rfl) (nomark _)))) (fun _ _ _ _ _ => (pv 4))) (pss_one (ps_ret (pe_ifExp (pt_cmpR (op_neA (hu65 hr)) (pv 3) (pe_lst pa_nil) (nomark _)) (pe_ix ix_seq (pv 3) (pe_un un_neg pe_int) (fun _ _ => rfl)) pe_non)))))) (by decide) (fun x hx => run_write_by x hx)⟩
end DL
namespace DL
open PySem PySem.Spec L2
theorem sc_join_by : FnScope ["trace", "event", "target", "events"] ["trace", "event"] (defScope s_join_by) := ⟨rfl, rfl, rfl, by decide +kernel, rfl, by decide +kernel, by decide +kernel⟩
abbrev sp_join_by (K : PySem.W.Frag) : Sp := spD K (fun x : Tr × Nat => [encT x.1, natD x.2]) (fun x => x.1.length ≤ 100000 ∧ x.2 < x.1.length) (fun x => optD (joinO x.1 x.2))
def t_join_by (K : PySem.W.Frag) : TS := (tSeq (tAsg (tCall (sp_target_of K) [] E0 (tCons (tVar 0) (tCons (tVar 1) tNil))) (gName 2)) (tSeq (tAsg (tCall (sp_events_by K) [] E0 (tCons (tVar 0) (tCons (tVar 2) tNil))) (gName 3)) (tRet (tIf (tTest (tOp (rNeA K) (tVar 3) (tLst tNil))) (tOp (rIx K) (tVar 3) (tUn (rU fun i => .int (-i)) (tC (.int 1)))) (tCall (sp_fork_by K) [] E0 (tCons (tVar 0) (tCons (tVar 2) tNil)))))))
theorem run_join_by {K : PySem.W.Frag} (x : Tr × Nat) (hx : x.1.length ≤ 100000 ∧ x.2 < x.1.length) : Runs K (t_join_by K) [.dat (encT x.1), .dat (natD x.2), .un, .un] { nx := fun _ => (optD (joinO x.1 x.2) : Dt) = .non, rt := fun e _ => e = optD (joinO x.1 x.2) } := by
  obtain ⟨t, i⟩ := x
  obtain ⟨h1, h2⟩ := hx
  refine q_set (ev_call (t, i) (ea_cons (ev_var rfl) (ea_cons (ev_var rfl) ea_nil)) h2) (q_set (ev_call (t, (Tr.at t i).tg) (ea_cons (ev_var rfl) (ea_cons (ev_var rfl) ea_nil)) h1) (r_ret ((ev_last rfl fun _ => ev_call (t, (Tr.at t i).tg) (ea_cons (ev_var rfl) (ea_cons (ev_var rfl) ea_nil)) h1).is ?_) rfl))
  show _ = optD (joinO t i)
  unfold joinO
  cases List.getLast? _ <;> rfl
theorem ok_join_by {P : Program} {w : World} {K : PySem.W.Frag} {mg : Str → Option Value} {base : Heap} (T : Txt w K mg) : Def P w K mg base "join_by" ["trace", "event"] 2 (sp_join_by K) := by
  obtain ⟨f, fd, F, gl⟩ := T.fn_join_by
  exact ⟨f, fd, gl, F.kp, FunD.bindsN F (fun _ _ _ _ _ _ us hl => match us, hl with | [_, _], _ => rfl), fn_f F sc_join_by (fun _ => rfl) (t_join_by K) (fun cdv A outer s H E hr => (pss_cons (ps_set (i := 2) sc_join_by.nd rfl (by first | exact Or.inl rfl | exact Or.inr rfl) (pe_callD (ok_target_of T) hr (by decide) (by rfl) (pa_cons (pv 0) (pa_cons (pv 1) pa_nil)))) (pss_cons (ps_set (i := 3) sc_join_by.nd rfl (by first | exact Or.inl rfl | exact Or.inr rfl) (pe_callD (ok_events_by T) hr (by decide) (by rfl) (pa_cons (pv 0) (pa_cons (pv 2) pa_nil)))) (pss_one (ps_ret (pe_ifExp (pt_cmpR (op_neA (hu65 hr)) (pv 3) (pe_lst pa_nil) (nomark _)) (pe_ix ix_seq (pv 3) (pe_un un_neg pe_int) (fun _ _ => rfl)) (pe_callD (ok_fork_by T) hr (by decide) (by rfl) (pa_cons (pv 0) (pa_cons (pv 2) pa_nil))))))))) (by decide) (fun x hx => run_join_by x hx)⟩
end DL
namespace DL
open PySem PySem.Spec L2
theorem sc_needs_by : FnScope ["trace", "event", "found", "one"] ["trace", "event"] (defScope s_needs_by) := ⟨rfl, rfl, rfl, by decide +kernel, rfl, by decide +kernel, by decide +kernel⟩
abbrev sp_needs_by (K : PySem.W.Frag) : Sp := spD K (fun x : Tr × Nat => [encT x.1, natD x.2]) (fun x => x.1.length ≤ 100000 ∧ x.2 < x.1.length) (fun x => .tup ((needs x.1 x.2).map .int))
def t_needs_by (w : World) (K : PySem.W.Frag) : TS := (tSeq (tAsg (tLst (tCons (tCall (sp_previous_by K) [] E0 (tCons (tVar 0) (tCons (tVar 1) tNil))) tNil)) (gName 2)) (tSeq (tIfS (tTest (tOp (rEqA K) (tCall (sp_name_of K) [] E0 (tCons (tVar 0) (tCons (tVar 1) tNil))) (tC (.str "read")))) (tDrop (tBM K "list" rAppend (tVar 2) (tCons (tCall (sp_write_by K) [] E0 (tCons (tVar 0) (tCons (tVar 1) tNil))) tNil))) (tIfS (tTest (tOp (rEqA K) (tCall (sp_name_of K) [] E0 (tCons (tVar 0) (tCons (tVar 1) tNil))) (tC (.str "join")))) (tDrop (tBM K "list" rAppend (tVar 2) (tCons (tCall (sp_join_by K) [] E0 (tCons (tVar 0) (tCons (tVar 1) tNil))) tNil))) tNext)) (tRet (tCB (rTupOf K) (tCons (tCB (rSortA K w) (tCons (tDc (iSeq K (tVar 2)) (gName 3) (tTest (tOp (fun x y H Q => y = .non ∧ Q (.bl (!decide (x = .non))) H) (tVar 3) (tC .non))) (tVar 3) (tC (.bl true)) [3]) tNil)) tNil)))))
theorem run_needs_by {w : World} {K : PySem.W.Frag} (x : Tr × Nat) (hx : x.1.length ≤ 100000 ∧ x.2 < x.1.length) : Runs K (t_needs_by w K) [.dat (encT x.1), .dat (natD x.2), .un, .un] { nx := fun _ => (.tup ((needs x.1 x.2).map .int) : Dt) = .non, rt := fun e _ => e = .tup ((needs x.1 x.2).map .int) } := by
  obtain ⟨t, i⟩ := x
  have h2 : i < t.length := hx.2
  have fin : ∀ l, l = founds t i → l.length < 64 → Runs K (tRet (tCB (rTupOf K) (tCons (tCB (rSortA K w) (tCons (tDc (iSeq K (tVar 2)) (gName 3) (tTest (tOp (fun x y H Q => y = .non ∧ Q (.bl (!decide (x = .non))) H) (tVar 3) (tC .non))) (tVar 3) (tC (.bl true)) [3]) tNil)) tNil))) [.dat (encT t), .dat (natD i), .own none (.lst (l.map optD)), .un]
      { nx := fun _ => (Dt.tup ((needs t i).map .int)) = .non, rt := fun e _ => e = .tup ((needs t i).map .int) } := fun l hl hz => by
    refine r_ret ((ev_cb1 (ev_cb1 (en_dcM (F := Dt.bl) optD l (fun o => o.isSome) (fun o => ((o.getD 0 : Nat) : Int)) (fun _ => true) (eir_seqL (er_var rfl)) (fun o ho => ?_) (by unfold sizeLine; omega)).ev.rd (rc_sortD (Nat.lt_of_le_of_lt (dmade_len _ _ _ l) hz))).rd rc_tupL).is ?_) rfl
    · cases o with
      | none => exact ⟨_, _, fun _ h => h, tg_name, et_test (ev_op (ev_var rfl) ev_non rv_notN), fun h => by cases h⟩
      | some k => exact ⟨_, _, fun _ h => h, tg_name, et_test (ev_op (ev_var rfl) ev_non rv_notN), fun _ => ⟨ev_var rfl, ev_bl⟩⟩
    · rw [hl]
      rfl
  have nm : ∀ ρ : List Sl, ρ[0]? = some (.dat (encT t)) → ρ[1]? = some (.dat (natD i)) → Ev K (tCall (sp_name_of K) [] E0 (tCons (tVar 0) (tCons (tVar 1) tNil))) ρ (.str (Tr.at t i).nm.s) := fun ρ a b => ev_call (t, i) (ea_cons (ev_var a) (ea_cons (ev_var b) ea_nil)) h2
  refine q_setN (en_lst (ea_cons (ev_call (t, i) (ea_cons (ev_var rfl) (ea_cons (ev_var rfl) ea_nil)) hx) ea_nil) (show 1 ≤ sizeLine by decide)) ?_
  refine r_seq (r_if (et_test (ev_op (nm _ rfl rfl) ev_str rv_eqAS)) (fun e => ?_) fun e => r_if (et_test (ev_op (nm _ rfl rfl) ev_str rv_eqAS)) (fun e2 => ?_) fun e2 => ?_)
  · have e' : (Tr.at t i).nm = .rd := Nm.inj (of_decide_eq_true e)
    refine r_app rfl (ev_call (t, i) (ea_cons (ev_var rfl) (ea_cons (ev_var rfl) ea_nil)) hx) (show 1 < sizeLine by decide) ?_
    exact fin [prevO t i, writeO t i] (by unfold founds; rw [if_pos e']) (show 2 < 64 by decide)
  · have e' : (Tr.at t i).nm = .jn := Nm.inj (of_decide_eq_true e2)
    refine r_app rfl (ev_call (t, i) (ea_cons (ev_var rfl) (ea_cons (ev_var rfl) ea_nil)) hx) (show 1 < sizeLine by decide) ?_
    exact fin [prevO t i, joinO t i] (by unfold founds; rw [if_neg (by rw [e']; decide), if_pos e']) (show 2 < 64 by decide)
  · have n1 : (Tr.at t i).nm ≠ .rd := fun z => of_decide_eq_false e (by show (Tr.at t i).nm.s = Nm.s .rd; rw [z])
    have n2 : (Tr.at t i).nm ≠ .jn := fun z => of_decide_eq_false e2 (by show (Tr.at t i).nm.s = Nm.s .jn; rw [z])
    refine r_next ?_
    exact fin [prevO t i] (by unfold founds; rw [if_neg n1, if_neg n2]) (show 1 < 64 by decide)
theorem ok_needs_by {P : Program} {w : World} {K : PySem.W.Frag} {mg : Str → Option Value} {base : Heap} (T : Txt w K mg) : Def P w K mg base "needs_by" ["trace", "event"] 3 (sp_needs_by K) := by
  obtain ⟨f, fd, F, gl⟩ := T.fn_needs_by
  exact ⟨f, fd, gl, F.kp, FunD.bindsN F (fun _ _ _ _ _ _ us hl => match us, hl with | [_, _], _ => rfl), fn_f F sc_needs_by (fun _ => rfl) (t_needs_by w K) (fun cdv A outer s H E hr => (pss_cons (ps_set (i := 2) sc_needs_by.nd rfl (by first | exact Or.inl rfl | exact Or.inr rfl) (pe_lst (pa_cons (pe_callD (ok_previous_by T) hr (by decide) (by rfl) (pa_cons (pv 0) (pa_cons (pv 1) pa_nil))) pa_nil))) (pss_cons (ps_if (pt_cmpR (op_eqA (hu65 hr)) (pe_callD (ok_name_of T) hr (by decide) (by rfl) (pa_cons (pv 0) (pa_cons (pv 1) pa_nil))) (pe_gstr T.c_READ rfl) (nomark _)) (pss_one (ps_expr (pe_bm PySem.F.plainAttrs_list PySem.F.slot_list_append PySem.F.type_list_append mt_append (pv 2) (pa_cons (pe_callD (ok_write_by T) hr (by decide) (by rfl) (pa_cons (pv 0) (pa_cons (pv 1) pa_nil))) pa_nil)))) (pss_one (ps_if (pt_cmpR (op_eqA (hu65 hr)) (pe_callD (ok_name_of T) hr (by decide) (by rfl) (pa_cons (pv 0) (pa_cons (pv 1) pa_nil))) (pe_gstr T.c_JOIN rfl) (nomark _)) (pss_one (ps_expr (pe_bm PySem.F.plainAttrs_list PySem.F.slot_list_append PySem.F.type_list_append mt_append (pv 2) (pa_cons (pe_callD (ok_join_by T) hr (by decide) (by rfl) (pa_cons (pv 0) (pa_cons (pv 1) pa_nil))) pa_nil)))) pss_nil))) (pss_one (ps_ret (pe_callTy call_tuple_of (by rfl) T.b_tuple (by decide +kernel) (pa_cons (pe_callB (cr_sortA rfl) (by rfl) T.b_sorted (by decide +kernel) (pa_cons (pe_dc (own := [("one", 3)]) rfl sc_needs_by.nd (pi_seq (pv 2)) (blkOk_by (by kernel_rfl)) (fun _ _ _ _ _ => (pg_name (i := 3) sc_needs_by.nd rfl (by first | exact Or.inl rfl | exact Or.inr rfl))) (fun _ _ _ _ _ => (pts_one (pt_cmpR op_notN (pv 3) pe_non (nomark _)))) (fun _ _ _ _ _ => (pv 3)) (fun _ _ _ _ _ => pe_bl)) pa_nil)) pa_nil))))))) (by decide) (fun x hx => run_needs_by x hx)⟩
end DL
namespace DL
open PySem PySem.Spec L2
theorem sc_end_by : FnScope ["trace", "event", "thread", "name", "lock", "ends", "index"] ["trace", "event"] (defScope s_end_by) := ⟨rfl, rfl, rfl, by decide +kernel, rfl, by decide +kernel, by decide +kernel⟩
abbrev sp_end_by (K : PySem.W.Frag) : Sp := spD K (fun x : Tr × Nat => [encT x.1, natD x.2]) (fun x => x.1.length ≤ 100000 ∧ x.2 < x.1.length ∧ (Tr.at x.1 x.2).nm.takes = true) (fun x => optD (endO x.1 x.2))
def t_end_by (K : PySem.W.Frag) : TS := (tSeq (tAsg (tOp (rIx K) (tVar 0) (tVar 1)) (gTup K 3 (gCons (gName 2) (gCons (gName 3) (gCons (gName 4) gNil))))) (tSeq (tAsg (tLc (iRng2 (tCons (tOp (rAddA K) (tVar 1) (tC (.int 1))) (tCons (tCB (rLen K) (tCons (tVar 0) tNil)) tNil))) (gName 6) (tTest (tOp (rEqA K) (tOp (rIx K) (tVar 0) (tVar 6)) (tTup (tCons (tVar 2) (tCons (tOp (rIxK (kd_ENDS K)) (tC (.ref (He.ga K "ENDS"))) (tVar 3)) (tCons (tVar 4) tNil)))))) (tVar 6) [6]) (gName 5)) (tRet (tIf (tTest (tOp (rNeA K) (tVar 5) (tLst tNil))) (tOp (rIx K) (tVar 5) (tC (.int 0))) (tC .non)))))
theorem run_end_by {w : World} {K : PySem.W.Frag} {mg : Str → Option Value} (T : Txt w K mg) (x : Tr × Nat) (hx : x.1.length ≤ 100000 ∧ x.2 < x.1.length ∧ (Tr.at x.1 x.2).nm.takes = true) : Runs K (t_end_by K) [.dat (encT x.1), .dat (natD x.2), .un, .un, .un, .un, .un] { nx := fun _ => (optD (endO x.1 x.2) : Dt) = .non, rt := fun e _ => e = optD (endO x.1 x.2) } := by
  obtain ⟨t, i⟩ := x
  obtain ⟨h1, h2, h3⟩ := hx
  have h1 : t.length ≤ 100000 := h1
  have h2 : i < t.length := h2
  have h3 : (Tr.at t i).nm.takes = true := h3
  refine q_setTg (ev_at (ev_var rfl) (ev_var rfl) h2) (tg_tup (tgs_cons tg_name (tgs_cons tg_name (tgs_cons tg_name tgs_nil))) rfl) ?_
  refine q_set (en_lcM natD (List.range' (i + 1) (t.length - (i + 1))) (fun j => decide (Tr.at t j = ⟨(Tr.at t i).th, (Tr.at t i).nm.ended, (Tr.at t i).tg⟩)) natD ((ei_rng2 (m := ((i + 1 : Nat) : Int)) (n := (t.length : Int)) (ea_cons (Ev.is (ev_op (ev_var rfl) ev_int rv_addI) ?_) (ea_cons ((ev_cb1 (ev_var rfl).rd rc_lenT).is ?_) ea_nil)) (by omega)).is ?_).r (fun j hj => ?_) (by rw [List.length_range']; unfold sizeLine; omega)).ev ?_
  · show Dt.int ((i : Int) + 1) = .int ((i + 1 : Nat) : Int)
    rw [Int.natCast_add]
    rfl
  · rw [List.length_map]
  · rw [show ((t.length : Int) - ((i + 1 : Nat) : Int)).toNat = t.length - (i + 1) by omega]
    exact nums_range _ _
  · have hj2 : j < t.length := by
      obtain ⟨k, a1, a2⟩ := List.mem_range'.mp hj
      omega
    have hend : kd_ENDS K (He.ga K "ENDS") (Tr.at t i).nm.s (.str (Tr.at t i).nm.ended.s) := by
      refine ⟨rfl, ?_⟩
      revert h3
      cases (Tr.at t i).nm <;> intro h3 <;> first | exact .inl ⟨rfl, rfl⟩ | exact .inr ⟨rfl, rfl⟩ | cases h3
    refine ⟨_, _, fun _ h => h, tg_name, et_test ((ev_op (ev_at (ev_var rfl) (ev_var rfl) hj2) (ev_tup (ea_cons (ev_var rfl) (ea_cons (ev_kd (ev_var rfl) hend) (ea_cons (ev_var rfl) ea_nil))) (show 3 ≤ sizeLine by decide)) (rv_eqD (lay_E _) (lay_E ⟨_, _, _⟩))).is ?_), fun _ => ev_var rfl⟩
    exact congrArg Dt.bl (deq_E (Tr.at t j) ⟨_, _, _⟩)
  · refine r_ret ((ev_first rfl fun _ => ev_non).is ?_) rfl
    show _ = optD (endO t i)
    unfold endO
    cases List.head? _ <;> rfl
theorem ok_end_by {P : Program} {w : World} {K : PySem.W.Frag} {mg : Str → Option Value} {base : Heap} (T : Txt w K mg) : Def P w K mg base "end_by" ["trace", "event"] 1 (sp_end_by K) := by
  obtain ⟨f, fd, F, gl⟩ := T.fn_end_by
  exact ⟨f, fd, gl, F.kp, FunD.bindsN F (fun _ _ _ _ _ _ us hl => match us, hl with | [_, _], _ => rfl), fn_f F sc_end_by (fun _ => rfl) (t_end_by K) (fun cdv A outer s H E hr => (pss_cons (ps_asg (pe_ix ix_seq (pv 0) (pv 1) (fun _ _ => rfl)) (pg_tup rfl (pgs_cons (pg_name (i := 2) sc_end_by.nd rfl (by first | exact Or.inl rfl | exact Or.inr rfl)) (pgs_cons (pg_name (i := 3) sc_end_by.nd rfl (by first | exact Or.inl rfl | exact Or.inr rfl)) (pgs_cons (pg_name (i := 4) sc_end_by.nd rfl (by first | exact Or.inl rfl | exact Or.inr rfl)) pgs_nil))))) (pss_cons (ps_setLc (i := 5) (own := [("index", 6)]) rfl sc_end_by.nd rfl rfl (sw_true rfl rfl rfl (by decide +kernel)) (pi_range2 (by rfl) T.b_range (pa_cons (pe_op op_addA (pv 1) pe_int) (pa_cons (pe_callB call_len (by rfl) T.b_len (by decide +kernel) (pa_cons (pv 0) pa_nil)) pa_nil))) (blkOk_by (by kernel_rfl)) (fun _ _ _ _ _ => (pg_name (i := 6) sc_end_by.nd rfl (by first | exact Or.inl rfl | exact Or.inr rfl))) (fun _ _ _ _ _ => (pts_one (pt_cmpR (op_eqA (hu65 hr)) (pe_ix ix_seq (pv 0) (pv 6) (fun _ _ => rfl)) (pe_tup (pa_cons (pv 2) (pa_cons (pe_ix (ix_kd T.k_ENDS) (pe_glob rfl T.c_ENDS rfl) (pv 3) (fun _ _ => rfl)) (pa_cons (pv 4) pa_nil)))) (nomark _)))) (fun _ _ _ _ _ => (pv 6))) (pss_one (ps_ret (pe_ifExp (pt_cmpR (op_neA (hu65 hr)) (pv 5) (pe_lst pa_nil) (nomark _)) (pe_ix ix_seq (pv 5) pe_int (fun _ _ => rfl)) pe_non)))))) (by decide) (fun x hx => run_end_by T x hx)⟩
end DL
namespace DL
open PySem PySem.Spec L2
theorem sc_Ties___init__ : FnScope ["self", "trace", "event"] ["self", "trace"] (defScope (inClass s_Ties 0)) := ⟨rfl, rfl, rfl, by decide +kernel, rfl, by decide +kernel, by decide +kernel⟩
abbrev sp_Ties___init__ (K : PySem.W.Frag) : Sp := spI K (He.ga K "Ties") (fun t : Tr => [encT t]) (fun t => t.length ≤ 100000) (tiesD K)
def t_Ties___init__ (K : PySem.W.Frag) : TS := (tSeq (sFld K (tVar 0) (tVar 1) "base") (tSeq (sFld K (tVar 0) (tLc (iRng1 (tCons (tCB (rLen K) (tCons (tVar 1) tNil)) tNil)) (gName 2) tYes (tCall (sp_needs_by K) [] E0 (tCons (tVar 1) (tCons (tVar 2) tNil))) [2]) "needs") (sFld K (tVar 0) (tDc (iRng1 (tCons (tCB (rLen K) (tCons (tVar 1) tNil)) tNil)) (gName 2) (tTest (tOp (rInA K) (tCall (sp_name_of K) [] E0 (tCons (tVar 1) (tCons (tVar 2) tNil))) (tC (.ref (He.ga K "TAKING"))))) (tVar 2) (tCall (sp_end_by K) [] E0 (tCons (tVar 1) (tCons (tVar 2) tNil))) [2]) "ends")))
theorem run_Ties___init__ {w : World} {K : PySem.W.Frag} {mg : Str → Option Value} (T : Txt w K mg) (vs : List V) (H : Hp) (Q : VK) (E : XK) (hyp : sp_Ties___init__ K vs H Q E) : t_Ties___init__ K { nx := fun _ H' => Q .non H', rt := Q } (L2.start ["self", "trace", "event"] vs) H := by
  obtain ⟨t, x, dx, r, Y, rfl, hx, hxY, hY, hv, hlen, q⟩ := hyp
  obtain ⟨v, r', rfl, hv1, er⟩ := hv
  cases er
  have hY2 : ∀ a ∈ x :: Y, H a ≠ none := hY
  have I0 : Env K [] (x :: Y) H [.un, .dat (encT t), .un] [some (.ref x), some v, none] := by
    refine ⟨rfl, fun i s hs => ?_, fun i j p q d e v hij hi => ?_, fun a ha => hY2 a ha⟩
    · match i, hs with
      | 0, hs => cases hs; exact ⟨_, rfl, trivial⟩
      | 1, hs => cases hs; exact ⟨_, rfl, v, rfl, hv1⟩
      | 2, hs => cases hs; exact ⟨_, rfl, trivial⟩
      | n + 3, hs => cases hs
    · match i, hi with
      | 0, hi => cases hi
      | 1, hi => cases hi
      | 2, hi => cases hi
      | n + 3, hi => cases hi
  have hlen : t.length ≤ 100000 := hlen
  have hrng : ∀ ρ : List Sl, ρ[1]? = some (.dat (encT t)) → EvI K (iRng1 (tCons (tCB (rLen K) (tCons (tVar 1) tNil)) tNil)) ρ ((List.range t.length).map natD) := fun ρ h => (ei_rng1 (n := (t.length : Int)) (ea_cons ((ev_cb1 (ev_var h).rd rc_lenT).is (by rw [List.length_map])) ea_nil) (by omega)).is (by rw [show ((t.length : Int)).toNat = t.length by omega]; exact nums_range0 _)
  refine fld_b I0 rfl hx T.cl_Ties T.na_Ties_base (show 0 < 1000 by decide) (ev_var rfl) fun H1 v1 I1 x1 g1 s1 => ?_
  refine fld_b I1 rfl x1 T.cl_Ties T.na_Ties_needs (show 1 < 1000 by decide) ((en_lcM natD (List.range t.length) (fun _ => true) (fun i => .tup ((needs t i).map .int)) (hrng _ rfl).r (fun i hi => ?_) (by rw [List.length_range]; unfold sizeLine; omega)).ev.is (congrArg Dt.lst (made_all _ _))) fun H2 v2 I2 x2 g2 s2 => ?_
  · exact ⟨_, _, fun _ h => h, tg_name, et_yes, fun _ => ev_call (t, i) (ea_cons (ev_var rfl) (ea_cons (ev_var rfl) ea_nil)) ⟨hlen, List.mem_range.mp hi⟩⟩
  refine fld_b I2 rfl x2 T.cl_Ties T.na_Ties_ends (show 2 < 1000 by decide) (en_dcM (F := optD) natD (List.range t.length) (fun i => (Tr.at t i).nm.takes) (fun i : Nat => (i : Int)) (fun i => endO t i) (hrng _ rfl).r (fun i hi => ?_) (by rw [List.length_range]; unfold sizeLine; omega)).ev fun H3 v3 I3 x3 g3 s3 => ?_
  · have hi := List.mem_range.mp hi
    refine ⟨_, _, fun _ h => h, tg_name, et_test ((ev_op (ev_call (t, i) (ea_cons (ev_var rfl) (ea_cons (ev_var rfl) ea_nil)) hi) (ev_kt T.k_TAKING) (rv_in (.kt _) rfl rfl)).is ?_), fun hc => ⟨ev_var rfl, ev_call (t, i) (ea_cons (ev_var rfl) (ea_cons (ev_var rfl) ea_nil)) ⟨hlen, hi, hc⟩⟩⟩
    show Dt.bl (inF (.str (Tr.at t i).nm.s) ks_TAKING) = .bl (Tr.at t i).nm.takes
    cases (Tr.at t i).nm <;> rfl
  · refine q H3 (s1.trans (s2.trans s3)) ⟨x, dx, [v1, v2, v3], rfl, ?_, rfl, ?_⟩
    · exact cut_some.mpr ⟨hxY, x3⟩
    · have m1 : Same (cut H1 (x :: Y)) (cut H3 (x :: Y)) := cut_app (O := [x]) (s2.trans s3)
      have m2 : Same (cut H2 (x :: Y)) (cut H3 (x :: Y)) := cut_app (O := [x]) s3
      have mY : Same (cut H3 (x :: Y)) (cut H3 Y) := cut_more fun b hb => List.mem_cons_of_mem _ hb
      exact ⟨v1, _, rfl, (g1.mono m1).mono mY, v2, _, rfl, (g2.mono m2).mono mY, v3, _, rfl, g3.mono mY, rfl⟩
theorem ok_Ties___init__ {P : Program} {w : World} {K : PySem.W.Frag} {mg : Str → Option Value} {base : Heap} (T : Txt w K mg) : CDef P w K mg base (He.ga K "Ties") "Ties" ["self", "trace"] 4 (sp_Ties___init__ K) := by
  obtain ⟨fd, F⟩ := T.in_Ties
  refine ⟨_, fd, T.mk_Ties, T.c_Ties, FunD.bindsN F (fun _ _ _ _ _ _ us hl => match us, hl with | [_, _], _ => rfl), FunD.ok F sc_Ties___init__ (fun vs H Q E h => ?_) (fun cdv A outer s H vs Q E hr h => ⟨t_Ties___init__ K, PSs.nox ?_, run_Ties___init__ T vs H Q E h⟩)⟩
  · obtain ⟨z, x, dx, r, Y, rfl, _, _, _, h1, _⟩ := h
    rw [List.length_cons, h1.len]
    rfl
  · exact (pss_cons (ps_fld (pv 0) (pv 1) rfl) (pss_cons (ps_fld (pv 0) (pe_lc (own := [("event", 2)]) rfl sc_Ties___init__.nd (pi_range1 (by rfl) T.b_range (pa_cons (pe_callB call_len (by rfl) T.b_len (by decide +kernel) (pa_cons (pv 1) pa_nil)) pa_nil)) (blkOk_by (by kernel_rfl)) (fun _ _ _ _ _ => (pg_name (i := 2) sc_Ties___init__.nd rfl (by first | exact Or.inl rfl | exact Or.inr rfl))) (fun _ _ _ _ _ => pts_nil) (fun _ _ _ _ _ => (pe_callD (ok_needs_by T) hr (by decide) (by rfl) (pa_cons (pv 1) (pa_cons (pv 2) pa_nil))))) rfl) (pss_one (ps_fld (pv 0) (pe_dc (own := [("event", 2)]) rfl sc_Ties___init__.nd (pi_range1 (by rfl) T.b_range (pa_cons (pe_callB call_len (by rfl) T.b_len (by decide +kernel) (pa_cons (pv 1) pa_nil)) pa_nil)) (blkOk_by (by kernel_rfl)) (fun _ _ _ _ _ => (pg_name (i := 2) sc_Ties___init__.nd rfl (by first | exact Or.inl rfl | exact Or.inr rfl))) (fun _ _ _ _ _ => (pts_one (pt_cmpR (op_inA (hu65 hr)) (pe_callD (ok_name_of T) hr (by decide) (by rfl) (pa_cons (pv 1) (pa_cons (pv 2) pa_nil))) (pe_glob rfl T.c_TAKING rfl) (by rfl)))) (fun _ _ _ _ _ => (pv 2)) (fun _ _ _ _ _ => (pe_callD (ok_end_by T) hr (by decide) (by rfl) (pa_cons (pv 1) (pa_cons (pv 2) pa_nil))))) rfl))))
end DL
namespace DL
open PySem PySem.Spec L2
theorem sc_in_conflict : FnScope ["trace", "first", "second", "one", "other"] ["trace", "first", "second"] (defScope s_in_conflict) := ⟨rfl, rfl, rfl, by decide +kernel, rfl, by decide +kernel, by decide +kernel⟩
/-- reads or writes -/
def Nm.acc : Nm → Bool
  | .rd => true
  | .wr => true
  | _ => false
/-- two events in conflict -/
def confl (t : Tr) (i j : Nat) : Bool := !(decide ((Tr.at t i).th = (Tr.at t j).th) || !decide ((Tr.at t i).tg = (Tr.at t j).tg)) && ((Tr.at t i).nm.acc && ((Tr.at t j).nm.acc && (decide ((Tr.at t i).nm = .wr) || decide ((Tr.at t j).nm = .wr))))
theorem inF_wr (a b : Nm) : inF (.str "write") [.str a.s, .str b.s] = (decide (a = .wr) || decide (b = .wr)) := by
  cases a <;> cases b <;> rfl
abbrev sp_in_conflict (K : PySem.W.Frag) : Sp := spD K (fun x : Tr × Nat × Nat => [encT x.1, natD x.2.1, natD x.2.2]) (fun x => x.2.1 < x.1.length ∧ x.2.2 < x.1.length) (fun x => .bl (confl x.1 x.2.1 x.2.2))
def t_in_conflict (K : PySem.W.Frag) : TS := (tSeq (tPar 3 4 (tCons (tOp (rIx K) (tVar 0) (tVar 1)) (tCons (tOp (rIx K) (tVar 0) (tVar 2)) tNil))) (tSeq (tIfS (tOr (tTest (tOp (rEqA K) (tOp (rIx K) (tVar 3) (tC (.int 0))) (tOp (rIx K) (tVar 4) (tC (.int 0))))) (tTest (tOp (rNeA K) (tOp (rIx K) (tVar 3) (tC (.int 2))) (tOp (rIx K) (tVar 4) (tC (.int 2)))))) (tRet (tC (.bl false))) tNext) (tRet (tAndV (tOp (rInA K) (tOp (rIx K) (tVar 3) (tC (.int 1))) (tC (.ref (He.ga K "ACCESSES")))) (tAndV (tOp (rInA K) (tOp (rIx K) (tVar 4) (tC (.int 1))) (tC (.ref (He.ga K "ACCESSES")))) (tOp (rInA K) (tC (.str "write")) (tTup (tCons (tOp (rIx K) (tVar 3) (tC (.int 1))) (tCons (tOp (rIx K) (tVar 4) (tC (.int 1))) tNil)))))))))
theorem run_in_conflict {w : World} {K : PySem.W.Frag} {mg : Str → Option Value} (T : Txt w K mg) (x : Tr × Nat × Nat) (hx : x.2.1 < x.1.length ∧ x.2.2 < x.1.length) : Runs K (t_in_conflict K) [.dat (encT x.1), .dat (natD x.2.1), .dat (natD x.2.2), .un, .un] { nx := fun _ => (.bl (confl x.1 x.2.1 x.2.2) : Dt) = .non, rt := fun e _ => e = .bl (confl x.1 x.2.1 x.2.2) } := by
  obtain ⟨t, i, j⟩ := x
  obtain ⟨h1, h2⟩ := hx
  have ac : ∀ m : Nm, inF (.str m.s) ks_ACCESSES = m.acc := fun m => by cases m <;> rfl
  refine q_par (ea_cons (ev_at (ev_var rfl) (ev_var rfl) h1) (ea_cons (ev_at (ev_var rfl) (ev_var rfl) h2) ea_nil)) ?_
  refine q_when (et_or (et_test (ev_op (ev_th (ev_var rfl)) (ev_th (ev_var rfl)) rv_eqAI)) fun _ => et_test (ev_op (ev_tg (ev_var rfl)) (ev_tg (ev_var rfl)) rv_neAI)) (fun e => r_ret ev_bl ?_) fun e =>
    r_ret (ev_andV ((ev_op (ev_nm (ev_var rfl)) (ev_kt T.k_ACCESSES) (rv_in (.kt _) rfl rfl)).is (congrArg Dt.bl (ac _))) fun _ => ev_andV ((ev_op (ev_nm (ev_var rfl)) (ev_kt T.k_ACCESSES) (rv_in (.kt _) rfl rfl)).is (congrArg Dt.bl (ac _))) fun _ =>
      (ev_op ev_str (ev_tup (ea_cons (ev_nm (ev_var rfl)) (ea_cons (ev_nm (ev_var rfl)) ea_nil)) (show 2 ≤ sizeLine by decide)) (rv_in (.tup _) rfl rfl)).is (congrArg Dt.bl (inF_wr _ _))) ?_
  · show Dt.bl false = .bl (confl t i j)
    unfold confl
    rw [e]
    rfl
  · show Dt.bl _ = .bl (confl t i j)
    unfold confl
    rw [e]
    rfl
theorem ok_in_conflict {P : Program} {w : World} {K : PySem.W.Frag} {mg : Str → Option Value} {base : Heap} (T : Txt w K mg) : Def P w K mg base "in_conflict" ["trace", "first", "second"] 1 (sp_in_conflict K) := by
  obtain ⟨f, fd, F, gl⟩ := T.fn_in_conflict
  exact ⟨f, fd, gl, F.kp, FunD.bindsN F (fun _ _ _ _ _ _ us hl => match us, hl with | [_, _, _], _ => rfl), fn_f F sc_in_conflict (fun _ => rfl) (t_in_conflict K) (fun cdv A outer s H E hr => (pss_cons (ps_par (by rfl) sc_in_conflict.nd rfl rfl (by decide) rfl rfl (pa_cons (pe_ix ix_seq (pv 0) (pv 1) (fun _ _ => rfl)) (pa_cons (pe_ix ix_seq (pv 0) (pv 2) (fun _ _ => rfl)) pa_nil)) (by rfl)) (pss_cons (ps_if (PW.pt (pw_or (pt_cmpR (op_eqA (hu65 hr)) (pe_ix ix_seq (pv 3) pe_int (fun _ _ => rfl)) (pe_ix ix_seq (pv 4) pe_int (fun _ _ => rfl)) (nomark _)) (pw_or1 (pt_cmpR (op_neA (hu65 hr)) (pe_ix ix_seq (pv 3) pe_int (fun _ _ => rfl)) (pe_ix ix_seq (pv 4) pe_int (fun _ _ => rfl)) (nomark _))))) (pss_one (ps_ret pe_bl)) pss_nil) (pss_one (ps_ret (pe_and (pe_cmpR (op_inA (hu65 hr)) (pe_ix ix_seq (pv 3) pe_int (fun _ _ => rfl)) (pe_glob rfl T.c_ACCESSES rfl) (by rfl)) (pe_and (pe_cmpR (op_inA (hu65 hr)) (pe_ix ix_seq (pv 4) pe_int (fun _ _ => rfl)) (pe_glob rfl T.c_ACCESSES rfl) (by rfl)) (pe_one (pe_cmpR (op_inA (hu65 hr)) (pe_gstr T.c_WRITE rfl) (pe_tup (pa_cons (pe_ix ix_seq (pv 3) pe_int (fun _ _ => rfl)) (pa_cons (pe_ix ix_seq (pv 4) pe_int (fun _ _ => rfl)) pa_nil))) (by rfl)))))))))) (by decide) (fun x hx => run_in_conflict T x hx)⟩
end DL
namespace DL
open PySem PySem.Spec L2
theorem sc_conflicts_by : FnScope ["trace", "found", "first", "second"] ["trace"] (defScope s_conflicts_by) := ⟨rfl, rfl, rfl, by decide +kernel, rfl, by decide +kernel, by decide +kernel⟩
def pairN (p : Nat × Nat) : Dt := .tup [natD p.1, natD p.2]
def rowC (t : Tr) (i : Nat) : List (Nat × Nat) := ((List.range' (i + 1) (t.length - (i + 1))).filter fun j => confl t i j).map fun j => (i, j)
/-- the conflicts, by their first events, then by their second -/
def confs (t : Tr) : List (Nat × Nat) := (List.range t.length).flatMap (rowC t)
theorem rowC_len (t : Tr) (i : Nat) : (rowC t i).length ≤ t.length := by
  unfold rowC
  have := List.length_filter_le (fun j => confl t i j) (List.range' (i + 1) (t.length - (i + 1)))
  rw [List.length_range'] at this
  rw [List.length_map]
  omega
theorem flat_len (t : Tr) (k : Nat) : ((List.range k).flatMap (rowC t)).length ≤ k * t.length := by
  induction k with
  | zero => simp
  | succ k ih =>
    rw [List.range_succ, List.flatMap_append, List.length_append, Nat.succ_mul]
    have := rowC_len t k
    simp only [List.flatMap_cons, List.flatMap_nil, List.append_nil]
    omega
theorem confs_len (t : Tr) : (confs t).length ≤ t.length * t.length := flat_len t t.length
theorem mem_confs {t : Tr} {p : Nat × Nat} : p ∈ confs t ↔ p.1 < p.2 ∧ p.2 < t.length ∧ confl t p.1 p.2 = true := by
  obtain ⟨i, j⟩ := p
  unfold confs rowC
  simp only [List.mem_flatMap, List.mem_map, List.mem_filter, List.mem_range, List.mem_range', Prod.mk.injEq]
  constructor
  · rintro ⟨a, ha, b, ⟨⟨k, hk, rfl⟩, hc⟩, rfl, rfl⟩
    exact ⟨by omega, by omega, hc⟩
  · rintro ⟨h1, h2, h3⟩
    exact ⟨i, by omega, j, ⟨⟨j - (i + 1), by omega, by omega⟩, h3⟩, rfl, rfl⟩
abbrev sp_conflicts_by (K : PySem.W.Frag) : Sp := spD K (fun x : Tr => [encT x]) (fun x => x.length ≤ 1000) (fun x => .lst ((confs x).map pairN))
def t_conflicts_by (K : PySem.W.Frag) : TS := (tSeq (tAsg (tLst tNil) (gName 1)) (tSeq (tFor (iRng1 (tCons (tCB (rLen K) (tCons (tVar 0) tNil)) tNil)) (gName 2) (tDrop (tBM K "list" rExtend (tVar 1) (tCons (tLc (iRng2 (tCons (tOp (rAddA K) (tVar 2) (tC (.int 1))) (tCons (tCB (rLen K) (tCons (tVar 0) tNil)) tNil))) (gName 3) (tB (tCall (sp_in_conflict K) [] E0 (tCons (tVar 0) (tCons (tVar 2) (tCons (tVar 3) tNil))))) (tTup (tCons (tVar 2) (tCons (tVar 3) tNil))) [3]) tNil)))) (tRet (tVar 1))))
theorem run_conflicts_by {K : PySem.W.Frag} (x : Tr) (hx : x.length ≤ 1000) : Runs K (t_conflicts_by K) [.dat (encT x), .un, .un, .un] { nx := fun _ => (.lst ((confs x).map pairN) : Dt) = .non, rt := fun e _ => e = .lst ((confs x).map pairN) } := by
  refine q_setN (en_lst ea_nil (by decide)) ?_
  refine q_for (ds := (List.range x.length).map natD) (sl := [2]) (ei_upto ((ev_cb1 (ev_var rfl).rd rc_lenT).is (show _ = natD x.length by rw [List.length_map]; rfl)) (by omega))
    (fun k ρ => ∃ s2 s3, ρ = [.dat (encT x), .own none (.lst (((List.range k).flatMap (rowC x)).map pairN)), s2, s3]) ⟨_, _, rfl⟩ ?_ ?_
  · intro k d ρ2 hk ⟨s2, s3, e⟩
    subst e
    have hkl : k < x.length := by
      have := (List.getElem?_eq_some_iff.mp hk).1
      rw [List.length_map, List.length_range] at this
      exact this
    have hd : d = natD k := by
      rw [List.getElem?_map, List.getElem?_range hkl] at hk
      exact (Option.some.inj hk).symm
    subst hd
    have hlen := flat_len x k
    have hrow := rowC_len x k
    have hkx : k * x.length ≤ 1000 * 1000 := Nat.mul_le_mul (by omega) hx
    refine ⟨_, tg_name, r_ext (es := (rowC x k).map pairN) rfl ?_ (by rw [List.length_map, List.length_map]; unfold sizeLine; omega) ⟨.dat (natD k), s3, ?_⟩⟩
    · refine EvN.is (en_lcM natD (List.range' (k + 1) (x.length - (k + 1))) (fun j => confl x k j) (fun j => pairN (k, j)) ((ei_rng2 (m := ((k + 1 : Nat) : Int)) (n := (x.length : Int)) (ea_cons (Ev.is (ev_op (ev_var rfl) ev_int rv_addI) ?_) (ea_cons ((ev_cb1 (ev_var rfl).rd rc_lenT).is ?_) ea_nil)) (by omega)).is ?_).r (fun j hj => ?_) (by rw [List.length_range']; unfold sizeLine; omega)) ?_
      · show Dt.int ((k : Int) + 1) = .int ((k + 1 : Nat) : Int)
        rw [Int.natCast_add]
        rfl
      · rw [List.length_map]
      · rw [show ((x.length : Int) - ((k + 1 : Nat) : Int)).toNat = x.length - (k + 1) by omega]
        exact nums_range _ _
      · have hj2 : j < x.length := by
          obtain ⟨m, a1, a2⟩ := List.mem_range'.mp hj
          omega
        exact ⟨_, _, fun _ h => h, tg_name, et_B (ev_call ((x, k, j) : Tr × Nat × Nat) (ea_cons (ev_var rfl) (ea_cons (ev_var rfl) (ea_cons (ev_var rfl) ea_nil))) ⟨hkl, hj2⟩), fun _ => ev_tup (ea_cons (ev_var rfl) (ea_cons (ev_var rfl) ea_nil)) (show 2 ≤ sizeLine by decide)⟩
      · unfold rowC made
        rw [List.map_map]
        rfl
    · show _ = [_, Sl.own none (.lst _), _, _]
      rw [List.range_succ, List.flatMap_append, List.map_append]
      simp only [List.flatMap_cons, List.flatMap_nil, List.append_nil]
      rfl
  · intro ρ2 ⟨s2, s3, e⟩
    subst e
    rw [List.length_map, List.length_range]
    exact r_retOwn rfl rfl
theorem ok_conflicts_by {P : Program} {w : World} {K : PySem.W.Frag} {mg : Str → Option Value} {base : Heap} (T : Txt w K mg) : Def P w K mg base "conflicts_by" ["trace"] 2 (sp_conflicts_by K) := by
  obtain ⟨f, fd, F, gl⟩ := T.fn_conflicts_by
  exact ⟨f, fd, gl, F.kp, FunD.bindsN F (fun _ _ _ _ _ _ us hl => match us, hl with | [_], _ => rfl), fn_f F sc_conflicts_by (fun _ => rfl) (t_conflicts_by K) (fun cdv A outer s H E hr => (pss_cons (ps_set (i := 1) sc_conflicts_by.nd rfl (by first | exact Or.inl rfl | exact Or.inr rfl) (pe_lst pa_nil)) (pss_cons (ps_for PassesOwn.never rfl (pi_range1 (by rfl) T.b_range (pa_cons (pe_callB call_len (by rfl) T.b_len (by decide +kernel) (pa_cons (pv 0) pa_nil)) pa_nil)) (pg_name (i := 2) sc_conflicts_by.nd rfl (by first | exact Or.inl rfl | exact Or.inr rfl)) (pss_one (ps_expr (pe_bm PySem.F.plainAttrs_list PySem.F.slot_list_extend PySem.F.type_list_extend mt_extend (pv 1) (pa_cons (pe_lc (own := [("second", 3)]) rfl sc_conflicts_by.nd (pi_range2 (by rfl) T.b_range (pa_cons (pe_op op_addA (pv 2) pe_int) (pa_cons (pe_callB call_len (by rfl) T.b_len (by decide +kernel) (pa_cons (pv 0) pa_nil)) pa_nil))) (blkOk_by (by kernel_rfl)) (fun _ _ _ _ _ => (pg_name (i := 3) sc_conflicts_by.nd rfl (by first | exact Or.inl rfl | exact Or.inr rfl))) (fun _ _ _ _ _ => (pts_one (pt_val (pe_callD (ok_in_conflict T) hr (by decide) (by rfl) (pa_cons (pv 0) (pa_cons (pv 2) (pa_cons (pv 3) pa_nil))))))) (fun _ _ _ _ _ => (pe_tup (pa_cons (pv 2) (pa_cons (pv 3) pa_nil))))) pa_nil))))) (pss_one (ps_ret (pv 1)))))) (by decide) (fun x hx => run_conflicts_by x hx)⟩
end DL
namespace DL
open PySem PySem.Spec L2
theorem sc_Deriver_add : FnScope ["self", "step"] ["self", "step"] (defScope (inClass s_Deriver 2)) := ⟨rfl, rfl, rfl, by decide +kernel, rfl, by decide +kernel, by decide +kernel⟩
/-- a step of a derivation -/
inductive Stp | giv (e : Nat) | nee (o e : Nat) | fin (k a b : Nat)
def Stp.D : Stp → Dt
  | .giv e => .tup [.str "given", natD e]
  | .nee o e => .tup [.str "need", natD o, natD e]
  | .fin k a b => .tup [.str "end", natD k, natD a, natD b]
/-- the event that it adds -/
def Stp.ev : Stp → Nat
  | .giv e => e
  | .nee o _ => o
  | .fin k _ _ => k
/-- what a deriver has: its steps by their events, the events that wait -/
structure DS where
  st : List (Int × Stp)
  wt : List Nat
def DS.add (s : DS) (x : Stp) : DS := if (alook s.st (x.ev : Int)).isSome = true then s else ⟨aput s.st (x.ev : Int) x, s.wt ++ [x.ev]⟩
def nsV (l : List Nat) : List V := l.map fun (i : Nat) => V.int (i : Int)
/-- a deriver as it stands -/
structure DAt (K : PySem.W.Frag) (Z : List Addr) (H : Hp) (x a1 a2 dx : Addr) (tv : V) (t : Tr) (s : DS) : Prop where
  o : H x = some (.ins (He.ga K "Deriver") dx [("ties", tv), ("steps", .ref a1), ("waiting", .ref a2)])
  ti : Has K (cut H (x :: a1 :: a2 :: Z)) (tiesD K t) tv
  st : ∃ r, H a1 = some (.dK (kvI r)) ∧ AHas K (cut H (x :: a1 :: a2 :: Z)) Stp.D s.st r
  wt : H a2 = some (.lst (nsV s.wt))
  zd : ∀ a ∈ Z, H a ≠ none
  xz : x ∉ Z
theorem DAt.same {K : PySem.W.Frag} {Z : List Addr} {H H' : Hp} {x a1 a2 dx : Addr} {tv : V} {t : Tr} {s : DS} (D : DAt K Z H x a1 a2 dx tv t s) (e : Same H H') : DAt K Z H' x a1 a2 dx tv t s := by
  obtain ⟨r, h1, h2⟩ := D.st
  exact ⟨e _ _ D.o, D.ti.mono (cut_mono e _), ⟨r, e _ _ h1, h2.imp fun _ _ z => z.mono (cut_mono e _)⟩, e _ _ D.wt, fun a ha => Same.dom e (D.zd a ha), D.xz⟩
theorem DAt.ne {K : PySem.W.Frag} {Z : List Addr} {H : Hp} {x a1 a2 dx : Addr} {tv : V} {t : Tr} {s : DS} (D : DAt K Z H x a1 a2 dx tv t s) : x ≠ a1 ∧ x ≠ a2 ∧ a1 ≠ a2 := by
  obtain ⟨r, h1, _⟩ := D.st
  refine ⟨fun z => ?_, fun z => ?_, fun z => ?_⟩
  · have := D.o
    rw [z, h1] at this
    cases this
  · have := D.o
    rw [z, D.wt] at this
    cases this
  · have := D.wt
    rw [← z, h1] at this
    cases this
theorem DAt.dom {K : PySem.W.Frag} {Z : List Addr} {H : Hp} {x a1 a2 dx : Addr} {tv : V} {t : Tr} {s : DS} (D : DAt K Z H x a1 a2 dx tv t s) : ∀ a ∈ (x :: a1 :: a2 :: Z), H a ≠ none := fun a ha => by
  obtain ⟨r, h1, _⟩ := D.st
  simp only [List.mem_cons] at ha
  rcases ha with z | z | z | z
  · rw [z, D.o]; exact fun z => by cases z
  · rw [z, h1]; exact fun z => by cases z
  · rw [z, D.wt]; exact fun z => by cases z
  · exact D.zd a z
/-- the env of a method: self is not looked at -/
theorem DAt.env {K : PySem.W.Frag} {Z : List Addr} {H : Hp} {x a1 a2 dx : Addr} {tv : V} {t : Tr} {s : DS} (D : DAt K Z H x a1 a2 dx tv t s) {ds : List Dt} {vs : List V} (n : Nat) (h : HasL K (cut H (x :: a1 :: a2 :: Z)) ds vs) : Env K [] (x :: a1 :: a2 :: Z) H (.un :: (ds.map .dat ++ List.replicate n .un)) (some (.ref x) :: (vs.map some ++ List.replicate n none)) := by
  refine ⟨by simp [h.len], fun i s hs => ?_, fun i j p q d e v hij hi => ?_, fun a ha => D.dom a ha⟩
  · cases i with
    | zero => cases hs; exact ⟨_, rfl, trivial⟩
    | succ i =>
      rw [List.getElem?_cons_succ] at hs ⊢
      by_cases hi : i < ds.length
      · rw [List.getElem?_append_left (by rw [List.length_map]; exact hi), List.getElem?_map] at hs
        have hd : ds[i]? = some ds[i] := List.getElem?_eq_getElem hi
        rw [hd] at hs
        cases hs
        obtain ⟨v, e1, e2⟩ := h.get hd
        refine ⟨some v, ?_, v, rfl, e2⟩
        rw [List.getElem?_append_left (by rw [List.length_map, h.len]; exact hi), List.getElem?_map, e1]
        rfl
      · rw [List.getElem?_append_right (by rw [List.length_map]; omega)] at hs
        rw [List.getElem?_append_right (by rw [List.length_map, h.len]; omega)]
        have hr := (List.mem_replicate.mp (List.mem_of_getElem? hs)).2
        subst hr
        have hlt := (List.getElem?_eq_some_iff.mp hs).1
        rw [List.length_replicate, List.length_map] at hlt
        exact ⟨none, by rw [List.length_map, h.len, List.getElem?_replicate, if_pos (by omega)], trivial⟩
  · exfalso
    cases i with
    | zero => cases hi
    | succ i =>
      have hm := List.mem_of_getElem? hi
      rcases List.mem_cons.mp hm with z | z
      · cases z
      · rcases List.mem_append.mp z with z | z
        · obtain ⟨_, _, z⟩ := List.mem_map.mp z
          cases z
        · cases (List.mem_replicate.mp z).2
/-- a deriver as data: its fields never change, what two of them refer to does -/
def selfD (K : PySem.W.Frag) (t : Tr) (a1 a2 : Addr) : Dt := .ins (He.ga K "Deriver") ["ties", "steps", "waiting"] [tiesD K t, .val (.ref a1), .val (.ref a2)]
theorem DAt.self {K : PySem.W.Frag} {Z : List Addr} {H : Hp} {x a1 a2 dx : Addr} {tv : V} {t : Tr} {s : DS} (D : DAt K Z H x a1 a2 dx tv t s) : Has K (cut H (a1 :: a2 :: Z)) (selfD K t a1 a2) (.ref x) := by
  obtain ⟨n1, n2, _⟩ := D.ne
  refine ⟨x, dx, [tv, .ref a1, .ref a2], rfl, cut_some.mpr ⟨by simp [n1, n2, D.xz], D.o⟩, rfl, tv, _, rfl, D.ti.mono (cut_more fun b hb => List.mem_cons_of_mem _ hb), _, _, rfl, rfl, _, _, rfl, rfl, rfl⟩
/-- the env of a method, self as data -/
theorem DAt.envS {K : PySem.W.Frag} {Z : List Addr} {H : Hp} {x a1 a2 dx : Addr} {tv : V} {t : Tr} {s : DS} (D : DAt K Z H x a1 a2 dx tv t s) {ds : List Dt} {vs : List V} {N : List Str} {n : Nat} (h : HasL K (cut H (a1 :: a2 :: Z)) ds vs) (hn : ds.length + 1 + n = N.length) : Env K [] (a1 :: a2 :: Z) H (.dat (selfD K t a1 a2) :: (ds.map .dat ++ List.replicate n .un)) (L2.start N (.ref x :: vs)) :=
  env_start (ds := selfD K t a1 a2 :: ds) (fun a ha => D.dom a (List.mem_cons_of_mem _ ha)) ⟨_, _, rfl, D.self, h⟩ (by rw [List.length_cons]; omega)
def sp_Deriver_add (K : PySem.W.Frag) : Sp := fun vs H Q _ => ∃ Z x a1 a2 dx tv t s u uv, vs = [.ref x, uv] ∧ DAt K Z H x a1 a2 dx tv t s ∧ Has K (cut H (x :: a1 :: a2 :: Z)) (Stp.D u) uv ∧ s.st.length ≤ 100000 ∧ s.wt.length ≤ 100000 ∧
  ∀ H', DAt K Z H' x a1 a2 dx tv t (s.add u) → (∀ b o, b ≠ a1 → b ≠ a2 → H b = some o → H' b = some o) → Q .non H'
def t_Deriver_add (K : PySem.W.Frag) : TS := (tIfS (tTest (tOp (rNotInA K) (tOp (rIx K) (tVar 1) (tC (.int 1))) (tFld K (tVar 0) "steps"))) (tSeq (sDPut (tFld K (tVar 0) "steps") (tOp (rIx K) (tVar 1) (tC (.int 1))) (tVar 1)) (tDrop (tBM K "list" rAppend (tFld K (tVar 0) "waiting") (tCons (tOp (rIx K) (tVar 1) (tC (.int 1))) tNil)))) tNext)
theorem run_Deriver_add {w : World} {K : PySem.W.Frag} {mg : Str → Option Value} (T : Txt w K mg) (vs : List V) (H : Hp) (Q : VK) (E : XK) (hyp : sp_Deriver_add K vs H Q E) : t_Deriver_add K { nx := fun _ H' => Q .non H', rt := Q } (L2.start ["self", "step"] vs) H := by
  obtain ⟨Z, x, a1, a2, dx, tv, t, s, u, uv, rfl, D, hu, z1, z2, q⟩ := hyp
  have e1 : ∀ ρ : List Sl, ρ[1]? = some (.dat u.D) → Ev K (tOp (rIx K) (tVar 1) (tC (.int 1))) ρ (natD u.ev) := fun ρ h => by
    cases u with
    | giv e => exact ev_op (ev_var h) ev_int (rv_ixT rfl)
    | nee o e => exact ev_op (ev_var h) ev_int (rv_ixT rfl)
    | fin k a b => exact ev_op (ev_var h) ev_int (rv_ixT rfl)
  have I := D.env 0 (ds := [u.D]) (vs := [uv]) ⟨uv, [], rfl, hu, rfl⟩
  refine e1 _ rfl [] (x :: a1 :: a2 :: Z) H _ I _ fun v H1 s1 hv => ?_
  cases (show v = _ from hv)
  have D1 := D.same s1
  obtain ⟨r, r1, r2⟩ := D1.st
  have hl := r2.look (u.ev : Int)
  refine ⟨.ref x, rfl, x, _, dx, _, .ref a1, rfl, D1.o, T.cl_Deriver, T.na_Deriver_steps, rfl, .inr (.inr ⟨a1, _, rfl, .inl ⟨kvI r, .inl (u.ev : Int), .inl r1, rfl, rfl⟩, _, rfl, ?_⟩)⟩
  rw [valV_kvI]
  cases ha : alook s.st (u.ev : Int) with
  | some y =>
    rw [ha] at hl
    obtain ⟨v, g1, _⟩ := hl
    rw [g1]
    show Q .non H1
    refine q H1 ?_ fun b o _ _ hb => s1 _ _ hb
    unfold DS.add
    rw [ha, if_pos (show (some y).isSome = true from rfl)]
    exact D1
  | none =>
    rw [ha] at hl
    have hl : alook r (u.ev : Int) = none := hl
    rw [hl]
    obtain ⟨n1, n2, n3⟩ := D1.ne
    refine ⟨uv, rfl, .ref x, rfl, x, _, dx, _, .ref a1, rfl, D1.o, T.cl_Deriver, T.na_Deriver_steps, rfl, ?_⟩
    refine e1 _ rfl [] (x :: a1 :: a2 :: Z) H1 _ (I.mono s1) _ fun v H2 s2 hv => ?_
    cases (show v = _ from hv)
    have D2 := D1.same s2
    refine ⟨a1, _, rfl, .inl ⟨kvI r, .inl (u.ev : Int), s2 _ _ r1, rfl, by rw [kvI_len, r2.len]; unfold sizeLine; omega, rfl⟩, ?_⟩
    rw [putK_kvI]
    -- the list
    have hc : ∀ (o : HO) (G : Hp), cut (upd G a1 o) (x :: a1 :: a2 :: Z) = cut G (x :: a1 :: a2 :: Z) := fun o G => cut_upd_in (by simp)
    have x3 : upd H2 a1 (.dK (kvI (aput r (u.ev : Int) uv))) x = H2 x := upd_ne n1
    have w3 : upd H2 a1 (.dK (kvI (aput r (u.ev : Int) uv))) a2 = H2 a2 := upd_ne (Ne.symm n3)
    have hu2 : Has K (cut H2 (x :: a1 :: a2 :: Z)) u.D uv := hu.mono (cut_mono (s1.trans s2) _)
    refine ⟨.ref x, rfl, x, _, dx, _, .ref a2, rfl, by rw [x3]; exact D2.o, T.cl_Deriver, T.na_Deriver_waiting, rfl, .inl ⟨rfl, nsV s.wt, .inl (.inl (by rw [w3]; exact D2.wt))⟩, ?_⟩
    have I3 : Env K [] (x :: a1 :: a2 :: Z) (upd H2 a1 (.dK (kvI (aput r (u.ev : Int) uv)))) [.un, .dat u.D] [some (.ref x), some uv] := by
      have D3 : DAt K Z (upd H2 a1 (.dK (kvI (aput r (u.ev : Int) uv)))) x a1 a2 dx tv t ⟨aput s.st (u.ev : Int) u, s.wt⟩ := ⟨by rw [x3]; exact D2.o, by rw [hc]; exact D2.ti, ⟨_, upd_same, by rw [hc]; exact (r2.imp fun _ _ z => z.mono (cut_mono s2 _)).put hu2⟩, by rw [w3]; exact D2.wt, fun a ha => by (by_cases z : a = a1; rw [z, upd_same]; exact fun z => (by cases z); rw [upd_ne z]; exact D2.zd a ha), D2.xz⟩
      exact D3.env 0 (ds := [u.D]) (vs := [uv]) ⟨uv, [], rfl, by rw [hc]; exact hu2, rfl⟩
    refine e1 _ rfl [] (x :: a1 :: a2 :: Z) _ _ I3 _ fun v H4 s4 hv => ?_
    cases (show v = _ from hv)
    have k4 : H4 a2 = some (.lst (nsV s.wt)) := s4 _ _ (by rw [w3]; exact D2.wt)
    refine ⟨a2, nsV s.wt, _, rfl, rfl, k4, by unfold nsV; rw [List.length_map]; unfold sizeLine; omega, ?_⟩
    have hc4 : ∀ (o : HO), cut (upd H4 a2 o) (x :: a1 :: a2 :: Z) = cut H4 (x :: a1 :: a2 :: Z) := fun o => cut_upd_in (by simp)
    have up4 : Same (cut H2 (x :: a1 :: a2 :: Z)) (cut H4 (x :: a1 :: a2 :: Z)) := by
      have := cut_mono s4 (x :: a1 :: a2 :: Z)
      rw [hc] at this
      exact this
    refine q _ ?_ fun b o h1 h2 hb => ?_
    · unfold DS.add
      rw [ha, if_neg (show ¬ (none : Option Stp).isSome = true by decide)]
      refine ⟨by rw [upd_ne n2]; exact s4 _ _ (by rw [x3]; exact D2.o), by rw [hc4]; exact D2.ti.mono up4, ⟨_, by rw [upd_ne n3]; exact s4 _ _ upd_same, by rw [hc4]; exact ((r2.imp fun _ _ z => z.mono (cut_mono s2 _)).put hu2).imp fun _ _ z => z.mono up4⟩, ?_, fun a ha => ?_, D2.xz⟩
      · rw [upd_same]
        unfold nsV
        rw [List.map_append]
        rfl
      · by_cases z : a = a2
        · rw [z, upd_same]; exact fun z => by cases z
        · rw [upd_ne z]
          refine Same.dom s4 ?_
          by_cases z : a = a1
          · rw [z, upd_same]; exact fun z => by cases z
          · rw [upd_ne z]; exact D2.zd a ha
    · rw [upd_ne h2]
      exact s4 _ _ (by rw [upd_ne h1]; exact s2 _ _ (s1 _ _ hb))
theorem ok_Deriver_add {P : Program} {w : World} {K : PySem.W.Frag} {mg : Str → Option Value} {base : Heap} (T : Txt w K mg) : MDef P w K mg base (He.ga K "Deriver") "add" ["self", "step"] 1 (sp_Deriver_add K) := by
  obtain ⟨f, fd, M, F⟩ := T.mt_Deriver_add
  refine ⟨f, fd, M, FunD.bindsN F (fun _ _ _ _ _ _ us hl => match us, hl with | [_, _], _ => rfl), FunD.ok F sc_Deriver_add (fun vs H Q E h => ?_) (fun cdv A outer s H vs Q E hr h => ⟨t_Deriver_add K, PSs.nox ?_, run_Deriver_add T vs H Q E h⟩)⟩
  · obtain ⟨Z, x, a1, a2, dx, tv, t, s, u, uv, rfl, _⟩ := h
    rfl
  · exact (pss_one (ps_if (pt_cmpR (op_notinA (hu65 hr)) (pe_ix ix_seq (pv 1) pe_int (fun _ _ => rfl)) (pe_fld (pv 0) rfl) (by rfl)) (pss_cons (ps_dput (hu_of hr) (pe_fld (pv 0) rfl) (pe_ix ix_seq (pv 1) pe_int (fun _ _ => rfl)) (pv 1) rfl) (pss_one (ps_expr (pe_bm PySem.F.plainAttrs_list PySem.F.slot_list_append PySem.F.type_list_append mt_append (pe_fld (pv 0) rfl) (pa_cons (pe_ix ix_seq (pv 1) pe_int (fun _ _ => rfl)) pa_nil))))) pss_nil))
end DL
namespace DL
open PySem PySem.Spec L2
theorem sc_are_blocking : FnScope ["trace", "first", "second", "one", "other"] ["trace", "first", "second"] (defScope s_are_blocking) := ⟨rfl, rfl, rfl, by decide +kernel, rfl, by decide +kernel, by decide +kernel⟩
abbrev sp_are_blocking (K : PySem.W.Frag) : Sp := spD K (fun x : Tr × Nat × Nat => [encT x.1, natD x.2.1, natD x.2.2]) (fun x => x.2.1 < x.1.length ∧ x.2.2 < x.1.length) (fun x => .bl (blk x.1 x.2.1 x.2.2))
def t_are_blocking (K : PySem.W.Frag) : TS := (tSeq (tPar 3 4 (tCons (tOp (rIx K) (tVar 0) (tVar 1)) (tCons (tOp (rIx K) (tVar 0) (tVar 2)) tNil))) (tSeq (tIfS (tOr (tTest (tOp (rEqA K) (tVar 1) (tVar 2))) (tOr (tTest (tOp (rNeA K) (tOp (rIx K) (tVar 3) (tC (.int 2))) (tOp (rIx K) (tVar 4) (tC (.int 2))))) (tOr (tTest (tOp (rNotInA K) (tOp (rIx K) (tVar 3) (tC (.int 1))) (tC (.ref (He.ga K "TAKING"))))) (tTest (tOp (rNotInA K) (tOp (rIx K) (tVar 4) (tC (.int 1))) (tC (.ref (He.ga K "TAKING")))))))) (tRet (tC (.bl false))) tNext) (tRet (tNotV (tAndV (tOp (rEqA K) (tOp (rIx K) (tVar 3) (tC (.int 1))) (tC (.str "share"))) (tOp (rEqA K) (tOp (rIx K) (tVar 4) (tC (.int 1))) (tC (.str "share"))))))))
theorem run_are_blocking {w : World} {K : PySem.W.Frag} {mg : Str → Option Value} (T : Txt w K mg) (x : Tr × Nat × Nat) (hx : x.2.1 < x.1.length ∧ x.2.2 < x.1.length) : Runs K (t_are_blocking K) [.dat (encT x.1), .dat (natD x.2.1), .dat (natD x.2.2), .un, .un] { nx := fun _ => (.bl (blk x.1 x.2.1 x.2.2) : Dt) = .non, rt := fun e _ => e = .bl (blk x.1 x.2.1 x.2.2) } := by
  obtain ⟨t, i, j⟩ := x
  obtain ⟨h1, h2⟩ := hx
  have tk : ∀ m : Nm, inF (.str m.s) ks_TAKING = m.takes := fun m => by cases m <;> rfl
  refine q_par (ea_cons (ev_at (ev_var rfl) (ev_var rfl) h1) (ea_cons (ev_at (ev_var rfl) (ev_var rfl) h2) ea_nil)) ?_
  refine q_when (b := decide (i = j) || (!decide ((Tr.at t i).tg = (Tr.at t j).tg) || (!(Tr.at t i).nm.takes || !(Tr.at t j).nm.takes))) (et_or (et_test ((ev_op (ev_var rfl) (ev_var rfl) rv_eqAI).is ?_)) fun _ => et_or (et_test (ev_op (ev_tg (ev_var rfl)) (ev_tg (ev_var rfl)) rv_neAI)) fun _ => et_or (et_test ((ev_op (ev_nm (ev_var rfl)) (ev_kt T.k_TAKING) (rv_notin (.kt _) rfl rfl)).is ?_)) fun _ => et_test ((ev_op (ev_nm (ev_var rfl)) (ev_kt T.k_TAKING) (rv_notin (.kt _) rfl rfl)).is ?_)) (fun e => ?_) fun e => ?_
  · exact congrArg Dt.bl (decide_eq_decide.mpr ⟨fun z => by have z : (i : Int) = (j : Int) := z; omega, fun z => by have z : i = j := z; rw [z]⟩)
  · rw [tk]
  · rw [tk]
  · refine r_ret ev_bl ?_
    show Dt.bl false = .bl (blk t i j)
    unfold blk
    rw [e]
    rfl
  · refine r_ret (ev_notV (ev_andV (ev_op (ev_nm (ev_var rfl)) ev_str rv_eqAS) fun _ => ev_op (ev_nm (ev_var rfl)) ev_str rv_eqAS)) ?_
    show Dt.bl (!(decide ((Tr.at t i).nm.s = Nm.sha.s) && decide ((Tr.at t j).nm.s = Nm.sha.s))) = .bl (blk t i j)
    unfold blk
    rw [e, Nm.dec, Nm.dec]
    rfl
theorem ok_are_blocking {P : Program} {w : World} {K : PySem.W.Frag} {mg : Str → Option Value} {base : Heap} (T : Txt w K mg) : Def P w K mg base "are_blocking" ["trace", "first", "second"] 1 (sp_are_blocking K) := by
  obtain ⟨f, fd, F, gl⟩ := T.fn_are_blocking
  exact ⟨f, fd, gl, F.kp, FunD.bindsN F (fun _ _ _ _ _ _ us hl => match us, hl with | [_, _, _], _ => rfl), fn_f F sc_are_blocking (fun _ => rfl) (t_are_blocking K) (fun cdv A outer s H E hr => (pss_cons (ps_par (by rfl) sc_are_blocking.nd rfl rfl (by decide) rfl rfl (pa_cons (pe_ix ix_seq (pv 0) (pv 1) (fun _ _ => rfl)) (pa_cons (pe_ix ix_seq (pv 0) (pv 2) (fun _ _ => rfl)) pa_nil)) (by rfl)) (pss_cons (ps_if (PW.pt (pw_or (pt_cmpR (op_eqA (hu65 hr)) (pv 1) (pv 2) (nomark _)) (pw_or (pt_cmpR (op_neA (hu65 hr)) (pe_ix ix_seq (pv 3) pe_int (fun _ _ => rfl)) (pe_ix ix_seq (pv 4) pe_int (fun _ _ => rfl)) (nomark _)) (pw_or (pt_cmpR (op_notinA (hu65 hr)) (pe_ix ix_seq (pv 3) pe_int (fun _ _ => rfl)) (pe_glob rfl T.c_TAKING rfl) (by rfl)) (pw_or1 (pt_cmpR (op_notinA (hu65 hr)) (pe_ix ix_seq (pv 4) pe_int (fun _ _ => rfl)) (pe_glob rfl T.c_TAKING rfl) (by rfl))))))) (pss_one (ps_ret pe_bl)) pss_nil) (pss_one (ps_ret (pe_not (pe_and (pe_cmpR (op_eqA (hu65 hr)) (pe_ix ix_seq (pv 3) pe_int (fun _ _ => rfl)) (pe_gstr T.c_SHARE rfl) (nomark _)) (pe_one (pe_cmpR (op_eqA (hu65 hr)) (pe_ix ix_seq (pv 4) pe_int (fun _ _ => rfl)) (pe_gstr T.c_SHARE rfl) (nomark _)))))))))) (by decide) (fun x hx => run_are_blocking T x hx)⟩
end DL
namespace DL
open PySem PySem.Spec L2
/-! what a method of a deriver does: the deriver changes, all else stays -/
def OffD (a1 a2 : Addr) (H H' : Hp) : Prop := ∀ b o, b ≠ a1 → b ≠ a2 → H b = some o → H' b = some o
theorem OffD.trans {a1 a2 : Addr} {H H' H'' : Hp} (h : OffD a1 a2 H H') (h' : OffD a1 a2 H' H'') : OffD a1 a2 H H'' := fun b o e f g => h' b o e f (h b o e f g)
theorem OffD.of {a1 a2 : Addr} {H H' : Hp} (h : Same H H') : OffD a1 a2 H H' := fun b o _ _ g => h b o g
theorem OffD.cut {a1 a2 : Addr} {Z : List Addr} {H H' : Hp} (h : OffD a1 a2 H H') : Same (cut H (a1 :: a2 :: Z)) (cut H' (a1 :: a2 :: Z)) := fun b o g => by
  obtain ⟨g1, g2⟩ := cut_some.mp g
  simp only [List.mem_cons, not_or] at g1
  exact cut_some.mpr ⟨by simp [g1], h b o g1.1 g1.2.1 g2⟩
theorem Env.offY {K : PySem.W.Frag} {Y : List Addr} {H H' : Hp} {ρ : List Sl} {σ : L2.St} (I : Env K [] Y H ρ σ) (s : Same (cut H Y) (cut H' Y)) (hd : ∀ a ∈ Y, H' a ≠ none) : Env K [] Y H' ρ σ := by
  refine ⟨I.len, fun i t ht => ?_, I.sep, hd⟩
  obtain ⟨o, h1, h2⟩ := I.ok i t ht
  refine ⟨o, h1, ?_⟩
  cases t with
  | un => trivial
  | dat d => obtain ⟨v, g1, g2⟩ := h2; exact ⟨v, g1, g2.mono s⟩
  | own p d =>
    obtain ⟨v, g1, g2, _⟩ := h2
    obtain ⟨b, _, hb⟩ := g2.ref
    cases hb
structure EnvD (K : PySem.W.Frag) (Z : List Addr) (t : Tr) (x a1 a2 dx : Addr) (tv : V) (s : DS) (ρ : List Sl) (σ : L2.St) (H : Hp) : Prop where
  d : DAt K Z H x a1 a2 dx tv t s
  e : Env K [] (a1 :: a2 :: Z) H (.dat (selfD K t a1 a2) :: ρ) σ
  x : σ[0]? = some (some (.ref x))
structure PD where
  nx : List Sl → DS → Prop
  rt : DS → Prop := fun _ => False
def RunD (K : PySem.W.Frag) (t : Tr) (ts : TS) (ρ : List Sl) (s : DS) (P : PD) : Prop := ∀ Z x a1 a2 dx tv H σ (D : L2.Ends), EnvD K Z t x a1 a2 dx tv s ρ σ H →
  (∀ ρ' s' σ' H', P.nx ρ' s' → EnvD K Z t x a1 a2 dx tv s' ρ' σ' H' → OffD a1 a2 H H' → D.nx σ' H') →
  (∀ s' H', P.rt s' → DAt K Z H' x a1 a2 dx tv t s' → OffD a1 a2 H H' → D.rt .non H') → ts D σ H
section
variable {K : PySem.W.Frag} {Z : List Addr} {t : Tr} {x a1 a2 dx : Addr} {tv : V} {s : DS} {ρ : List Sl} {σ : L2.St} {H H' : Hp} {P : PD} {u v : TS} {c : TT}
theorem EnvD.mono (I : EnvD K Z t x a1 a2 dx tv s ρ σ H) (h : Same H H') : EnvD K Z t x a1 a2 dx tv s ρ σ H' := ⟨I.d.same h, I.e.mono h, I.x⟩
theorem EnvD.off {s' : DS} (I : EnvD K Z t x a1 a2 dx tv s ρ σ H) (d : DAt K Z H' x a1 a2 dx tv t s') (h : OffD a1 a2 H H') : EnvD K Z t x a1 a2 dx tv s' ρ σ H' := ⟨d, I.e.offY h.cut fun a ha => d.dom a (List.mem_cons_of_mem _ ha), I.x⟩
theorem d_seq (h : RunD K t u ρ s { P with nx := fun ρ' s' => RunD K t v ρ' s' P }) : RunD K t (tSeq u v) ρ s P := fun Z x a1 a2 dx tv H σ D I n r =>
  h Z x a1 a2 dx tv H σ { D with nx := v D } I (fun ρ' s' σ' H' hr I' o => hr Z x a1 a2 dx tv H' σ' D I' (fun ρ2 s2 σ2 H2 p I2 o2 => n ρ2 s2 σ2 H2 p I2 (o.trans o2)) fun s2 H2 p d2 o2 => r s2 H2 p d2 (o.trans o2)) r
theorem d_next (h : P.nx ρ s) : RunD K t tNext ρ s P := fun Z x a1 a2 dx tv H σ D I n r => n ρ s σ H h I (.of (Same.refl H))
theorem d_retN (h : P.rt s) : RunD K t tRetN ρ s P := fun Z x a1 a2 dx tv H σ D I n r => r s H h I.d (.of (Same.refl H))
theorem d_if {b : Bool} (h : ∀ a1 a2, EvT K c (.dat (selfD K t a1 a2) :: ρ) b) (h1 : b = true → RunD K t u ρ s P) (h2 : b = false → RunD K t v ρ s P) : RunD K t (tIfS c u v) ρ s P := fun Z x a1 a2 dx tv H σ D I n r =>
  h a1 a2 [] (a1 :: a2 :: Z) H σ I.e _ fun H' sm => by
    cases b with
    | true => exact h1 rfl Z x a1 a2 dx tv H' σ D (I.mono sm) (fun ρ2 s2 σ2 H2 p I2 o2 => n ρ2 s2 σ2 H2 p I2 ((OffD.of sm).trans o2)) fun s2 H2 p d2 o2 => r s2 H2 p d2 ((OffD.of sm).trans o2)
    | false => exact h2 rfl Z x a1 a2 dx tv H' σ D (I.mono sm) (fun ρ2 s2 σ2 H2 p I2 o2 => n ρ2 s2 σ2 H2 p I2 ((OffD.of sm).trans o2)) fun s2 H2 p d2 o2 => r s2 H2 p d2 ((OffD.of sm).trans o2)
theorem d_par {i j : Nat} {d e : Dt} {ta : TA} (h : ∀ a1 a2, EvA K ta (.dat (selfD K t a1 a2) :: ρ) [d, e]) (k : P.nx ((ρ.set i (.dat d)).set j (.dat e)) s) : RunD K t (tPar (i + 1) (j + 1) ta) ρ s P := fun Z x a1 a2 dx tv H σ D I n r =>
  h a1 a2 [] (a1 :: a2 :: Z) H σ I.e _ fun vs H' sm hv => by
    obtain ⟨v1, r1, rfl, h1, v2, r2, rfl, h2, h3⟩ := hv
    cases h3
    have I' := I.mono sm
    refine ⟨v1, v2, rfl, n _ s _ H' k ⟨I'.d, ?_, ?_⟩ (.of sm)⟩
    · exact (I'.e.put (i := i + 1) (s := .dat d) ⟨v1, rfl, h1⟩ (fun _ _ z => by cases z)).put (i := j + 1) (s := .dat e) ⟨v2, rfl, h2⟩ (fun _ _ z => by cases z)
    · rw [List.getElem?_set_ne (by omega), List.getElem?_set_ne (by omega)]
      exact I.x
theorem onlyT_stp (u : Stp) : onlyT u.D = true := by
  cases u <;> simp [Stp.D, onlyT, onlyTs, natD]
theorem d_add {targ : TE} {w : Stp} (h : ∀ a1 a2, Ev K targ (.dat (selfD K t a1 a2) :: ρ) w.D) (z1 : s.st.length ≤ 100000) (z2 : s.wt.length ≤ 100000) (k : P.nx ρ (s.add w)) :
    RunD K t (tDrop (tMeth (He.ga K "Deriver") "add" (sp_Deriver_add K) [] E0 (tVar 0) (tCons targ tNil))) ρ s P := fun Z x a1 a2 dx tv H σ D I n r => by
  refine ⟨.ref x, I.x, x, dx, _, rfl, I.d.o, rfl, h a1 a2 [] (a1 :: a2 :: Z) H σ I.e _ fun v H1 s1 hv => ?_⟩
  have I1 := I.mono s1
  refine ⟨Z, x, a1, a2, dx, tv, t, s, w, v, rfl, I1.d, ?_, z1, z2, fun H2 d2 o2 => n ρ _ σ H2 k (I1.off d2 o2) ((OffD.of s1).trans o2)⟩
  refine Has.tups (fun a xs e => ?_) (onlyT_stp w) hv
  obtain ⟨e1, e2⟩ := cut_some.mp e
  refine cut_some.mpr ⟨fun z => ?_, e2⟩
  rcases List.mem_cons.mp z with z | z
  · subst z
    rw [I1.d.o] at e2
    cases e2
  · exact e1 z
theorem d_for {wi : TI} {g : TG} {tb : TS} {ds : List Dt} {sl : List Nat} (hi : ∀ Z x a1 a2 dx tv H σ, EnvD K Z t x a1 a2 dx tv s ρ σ H → ∀ R : It → Hp → Prop, (∀ J H', Same H H' → WkD K J [] (a1 :: a2 :: Z) H' ds → R J H') → wi σ H R)
    (Iv : Nat → List Sl → DS → Prop) (h0 : Iv 0 ρ s) (h1 : 0 ∉ sl)
    (hs : ∀ i d ρ2 s2, ds[i]? = some d → Iv i ρ2 s2 → ∃ ρ3, (∀ a1 a2, Tg K g sl d (.dat (selfD K t a1 a2) :: ρ2) (.dat (selfD K t a1 a2) :: ρ3)) ∧ RunD K t tb ρ3 s2 { nx := Iv (i + 1), rt := P.rt })
    (hd : ∀ ρ2 s2, Iv ds.length ρ2 s2 → P.nx ρ2 s2) : RunD K t (tFor wi g tb) ρ s P := fun Z x a1 a2 dx tv H σ D I n r => by
  refine hi Z x a1 a2 dx tv H σ I _ fun J H1 s1 w => ?_
  refine ⟨fun i m σ2 H2 => m = ds.length - i ∧ i ≤ ds.length ∧ ∃ ρ2 s2, Iv i ρ2 s2 ∧ EnvD K Z t x a1 a2 dx tv s2 ρ2 σ2 H2 ∧ OffD a1 a2 H1 H2, ⟨ds.length, by omega, by omega, ρ, s, h0, I.mono s1, .of (Same.refl _)⟩, fun i m σ2 H2 hW => ?_⟩
  obtain ⟨hm, hil, ρ2, s2, hI, I2, o2⟩ := hW
  obtain ⟨w1, w2, w3⟩ := w i H2 [] o2.cut fun a ha => I2.d.dom a (List.mem_cons_of_mem _ ha)
  have oH : OffD a1 a2 H H2 := (OffD.of s1).trans o2
  by_cases hlt : i < ds.length
  · refine .inr ⟨w1 hlt, fun σ3 H3 => ∃ ρ3 s3, Iv (i + 1) ρ3 s3 ∧ EnvD K Z t x a1 a2 dx tv s3 ρ3 σ3 H3 ∧ OffD a1 a2 H1 H3, fun σ3 H3 ⟨ρ3, s3, b1, b2, b3⟩ => ⟨ds.length - (i + 1), by omega, rfl, hlt, ρ3, s3, b1, b2, b3⟩, fun y H3 hy => ?_⟩
    obtain ⟨s3, w4⟩ := w3 y H3 hy
    have hdd : ds[i]? = some ds[i] := List.getElem?_eq_getElem hlt
    obtain ⟨ρ3, tg, run⟩ := hs i ds[i] ρ2 s2 hdd hI
    have I3 := I2.mono s3
    refine tg a1 a2 [] (a1 :: a2 :: Z) H3 σ2 y I3.e (w4 _ hdd) _ fun σ4 I4 _ hk => ?_
    refine run Z x a1 a2 dx tv H3 σ4 _ ⟨I3.d, I4, by rw [hk 0 h1]; exact I3.x⟩ (fun ρ5 s5 σ5 H5 p I5 o5 => ⟨ρ5, s5, p, I5, o2.trans ((OffD.of s3).trans o5)⟩) fun s5 H5 p d5 o5 => r s5 H5 p d5 (oH.trans ((OffD.of s3).trans o5))
  · have e : i = ds.length := by omega
    exact .inl ⟨w2 (by omega), n ρ2 s2 σ2 H2 (hd ρ2 s2 (by rw [← e]; exact hI)) I2 oH⟩
theorem di_of {wi : TI} {ds : List Dt} (h : ∀ a1 a2, EvI K wi (.dat (selfD K t a1 a2) :: ρ) ds) : ∀ Z x a1 a2 dx tv H σ, EnvD K Z t x a1 a2 dx tv s ρ σ H → ∀ R : It → Hp → Prop, (∀ J H', Same H H' → WkD K J [] (a1 :: a2 :: Z) H' ds → R J H') → wi σ H R :=
  fun Z x a1 a2 dx tv H σ I R q => h a1 a2 [] (a1 :: a2 :: Z) H σ I.e R q
theorem kvI_keys {α : Type} {f : α → Dt} {l : List (Int × α)} {r : List (Int × V)} (h : AHas K H f l r) : (kvI r).map (fun kv => kV kv.1) = (akeys l).map V.int := by
  induction h with
  | nil => rfl
  | cons _ _ ih =>
    unfold kvI akeys at *
    rw [List.map_cons, List.map_cons, List.map_cons, List.map_cons, ih]
    rfl
/-- for .. in list(self.steps) -/
theorem di_steps (cl : Cls K (He.ga K "Deriver")) (na : NoAttr K (He.ga K "Deriver") "steps") : ∀ Z x a1 a2 dx tv H σ, EnvD K Z t x a1 a2 dx tv s ρ σ H → ∀ R : It → Hp → Prop, (∀ J H', Same H H' → WkD K J [] (a1 :: a2 :: Z) H' ((akeys s.st).map .int) → R J H') →
    iSeq K (tCB (rLstA K) (tCons (tFld K (tVar 0) "steps") tNil)) σ H R := fun Z x a1 a2 dx tv H σ I R q => by
  obtain ⟨r, r1, r2⟩ := I.d.st
  refine .inl ⟨.ref x, I.x, x, _, dx, _, .ref a1, rfl, I.d.o, cl, na, rfl, .inr ⟨a1, kvI r, rfl, .inl r1, fun p hp => ?_⟩⟩
  refine ⟨p, rfl, ⟨_, .inl (.inl upd_same)⟩, q (Itl K p) _ (same_new hp) (wk_list (xs := (akeys s.st).map V.int) (.inl ?_) HasL.of_ints)⟩
  refine cut_some.mpr ⟨fun z => ?_, ?_⟩
  · exact I.d.dom p (List.mem_cons_of_mem _ z) hp
  · rw [upd_same, kvI_keys r2]
end
end DL
namespace DL
open PySem PySem.Spec L2
/-- the end that two events want -/
def wantO (t : Tr) (i j : Nat) : Option Nat := if blk t i j = true then endO t (min i j) else none
theorem blk_takes {t : Tr} {i j : Nat} (h : blk t i j = true) : (Tr.at t i).nm.takes = true ∧ (Tr.at t j).nm.takes = true := by
  unfold blk at h
  simp only [Bool.and_eq_true, Bool.not_eq_true', Bool.or_eq_false_iff, Bool.not_eq_false'] at h
  exact ⟨h.1.2.2.1, h.1.2.2.2⟩
end DL
namespace DL
open PySem PySem.Spec L2
theorem needs_len (t : Tr) (i : Nat) : (needs t i).length ≤ 2 := by
  unfold needs
  rw [isort_len, List.length_map]
  refine Nat.le_trans (dmade_len _ _ _ _) ?_
  unfold founds
  split
  · exact Nat.le_refl _
  · split
    · exact Nat.le_refl _
    · exact Nat.le_succ _
def inN (l : List Nat) (k : Int) : Bool := decide (k ∈ l.map fun (i : Nat) => (i : Int))
def knownD (l : List Nat) : List (Int × Bool) := dmade (fun _ => true) (fun i : Nat => (i : Int)) (fun _ => true) l
theorem known_look (l : List Nat) (k : Int) : (alook (knownD l) k).isSome = inN l k := by
  unfold inN
  have h := (dmade_keys (fun _ => true) (fun i : Nat => (i : Int)) (fun _ => true) l).2 k
  have h2 : (alook (knownD l) k).isSome = true ↔ k ∈ akeys (knownD l) := by
    unfold alook akeys
    rw [Option.isSome_map, List.find?_isSome]
    constructor
    · rintro ⟨p, h1, h2⟩
      exact List.mem_map.mpr ⟨p, h1, of_decide_eq_true h2⟩
    · intro h
      obtain ⟨p, h1, h2⟩ := List.mem_map.mp h
      exact ⟨p, h1, decide_eq_true h2⟩
  have h3 : k ∈ akeys (knownD l) ↔ k ∈ l.map fun (i : Nat) => (i : Int) := by
    refine h.trans ?_
    rw [List.mem_map]
    exact ⟨fun ⟨x, a, _, b⟩ => ⟨x, a, b⟩, fun ⟨x, a, b⟩ => ⟨x, a, rfl, b⟩⟩
  cases hb : (alook (knownD l) k).isSome with
  | true => exact (decide_eq_true (h3.mp (h2.mp hb))).symm
  | false => exact (decide_eq_false fun z => by rw [h2.mpr (h3.mpr z)] at hb; cases hb).symm
def wantIn (t : Tr) (l : List Nat) (i j : Nat) : Bool := match wantO t i j with
  | none => true
  | some k => inN l (k : Int)
def takL (t : Tr) (l : List Nat) : List Nat := l.filter fun i => (Tr.at t i).nm.takes
/-- closed: what its events need, and the ends that they want, are among them -/
def closedB (t : Tr) (l : List Nat) : Bool := (l.all fun e => (needs t e).all fun o => inN l o) && ((takL t l).all fun i => (takL t l).all fun j => wantIn t l i j)
theorem all_made2 {α β : Type} (ys : α → List β) (p : α → β → Bool) : ∀ xs : List α, ∃ bs : List Bool, made2 (fun _ => true) ys (fun _ _ => true) (fun x y => .bl (p x y)) xs = bs.map .bl ∧ bs.all id = xs.all fun x => (ys x).all fun y => p x y
  | [] => ⟨[], rfl, rfl⟩
  | x :: xs => by
    obtain ⟨bs, h1, h2⟩ := all_made2 ys p xs
    refine ⟨(ys x).map (p x) ++ bs, ?_, ?_⟩
    · show (if true = true then made (fun _ => true) (fun y => Dt.bl (p x y)) (ys x) else []) ++ made2 (fun _ => true) ys (fun _ _ => true) (fun x y => .bl (p x y)) xs = _
      rw [if_pos rfl, made_all, h1, List.map_append, List.map_map]
      rfl
    · rw [List.all_append, List.all_cons, ← h2, List.all_map]
      rfl
theorem made2_le {α β : Type} (ys : α → List β) (f : α → β → Dt) (m : Nat) (h : ∀ x, (ys x).length ≤ m) : ∀ xs : List α, (made2 (fun _ => true) ys (fun _ _ => true) f xs).length ≤ m * xs.length
  | [] => Nat.zero_le _
  | x :: xs => by
    have ih := made2_le ys f m h xs
    show ((if true = true then made (fun _ => true) (f x) (ys x) else []) ++ made2 (fun _ => true) ys (fun _ _ => true) f xs).length ≤ _
    rw [if_pos rfl, made_all, List.length_append, List.length_map, List.length_cons, Nat.mul_succ]
    have := h x
    omega
end DL
namespace DL
open PySem PySem.Spec L2
theorem sc_Deriver_follow : FnScope ["self", "event", "one", "other", "early", "late"] ["self", "event"] (defScope (inClass s_Deriver 3)) := ⟨rfl, rfl, rfl, by decide +kernel, rfl, by decide +kernel, by decide +kernel⟩
def needsN (t : Tr) (i : Nat) : List Nat := (needs t i).map Int.toNat
theorem needs_cast (t : Tr) (i : Nat) : needs t i = (needsN t i).map fun (n : Nat) => (n : Int) := by
  unfold needsN
  rw [List.map_map]
  have h : ∀ x ∈ needs t i, ((fun (n : Nat) => (n : Int)) ∘ Int.toNat) x = id x := fun x hx => by
    unfold needs at hx
    rw [mem_isort] at hx
    obtain ⟨o, _, _, e⟩ := (dmade_keys _ _ _ _).2 x |>.mp hx
    show ((x.toNat : Nat) : Int) = x
    omega
  exact ((List.map_congr_left h).trans (List.map_id _)).symm
theorem mem_needsN {t : Tr} {i o : Nat} : o ∈ needsN t i ↔ some o ∈ founds t i := by
  have h : o ∈ needsN t i ↔ (o : Int) ∈ needs t i := by
    rw [needs_cast, List.mem_map]
    refine ⟨fun z => ⟨o, z, rfl⟩, fun ⟨k, a, b⟩ => ?_⟩
    have e : k = o := by omega
    rw [← e]
    exact a
  rw [h]
  unfold needs
  rw [mem_isort]
  refine ((dmade_keys _ _ _ _).2 _).trans ⟨fun ⟨z, a, b, c⟩ => ?_, fun z => ⟨some o, z, rfl, rfl⟩⟩
  cases z with
  | none => cases b
  | some k =>
    have : k = o := by
      have c : ((k : Nat) : Int) = (o : Int) := c
      omega
    rw [← this]
    exact a
theorem write_lt {t : Tr} {i j : Nat} (h : writeO t i = some j) : j < i := by
  unfold writeO at h
  have h1 := (List.mem_filter.mp (last_mem h)).1
  unfold accs at h1
  have h2 := List.mem_range.mp (List.mem_filter.mp h1).1
  rw [List.length_take] at h2
  omega
theorem needs_lt {t : Tr} (hf : faultOf t = none) {i o : Nat} (hi : i < t.length) (h : o ∈ needsN t i) : o < i := by
  have h := mem_needsN.mp h
  unfold founds at h
  rcases List.mem_cons.mp h with z | z
  · exact prev_lt hf hi z.symm
  · split at z
    · exact write_lt (List.mem_singleton.mp z).symm
    · split at z
      · rename_i hj
        exact join_lt hf hi hj (List.mem_singleton.mp z).symm
      · cases z
theorem ends_some {t : Tr} {i : Nat} (hi : i < t.length) : (alook (ends t) (i : Int)).isSome = (Tr.at t i).nm.takes := by
  cases ht : (Tr.at t i).nm.takes with
  | true => rw [ends_look (takers_mem.mpr ⟨hi, ht⟩)]; rfl
  | false =>
    cases ha : (alook (ends t) (i : Int)) with
    | none => rfl
    | some v =>
      exfalso
      have hk : (i : Int) ∈ akeys (ends t) := by
        unfold alook at ha
        obtain ⟨p, p1, p2⟩ := Option.map_eq_some_iff.mp ha
        exact List.mem_map.mpr ⟨p, List.mem_of_find?_eq_some p1, by have hp := List.find?_some p1; simpa using hp⟩
      obtain ⟨k, _, k2, k3⟩ := (dmade_keys _ _ _ _).2 _ |>.mp hk
      have e3 : k = i := by omega
      rw [e3, ht] at k2
      cases k2
theorem blk_comm (t : Tr) (i j : Nat) : blk t i j = blk t j i := by
  unfold blk
  rw [show decide (i = j) = decide (j = i) from decide_eq_decide.mpr ⟨fun z => z.symm, fun z => z.symm⟩, show decide ((Tr.at t i).tg = (Tr.at t j).tg) = decide ((Tr.at t j).tg = (Tr.at t i).tg) from decide_eq_decide.mpr ⟨fun z => z.symm, fun z => z.symm⟩,
    Bool.or_comm (!(Tr.at t i).nm.takes), Bool.and_comm (decide ((Tr.at t i).nm = .sha))]
theorem blk_ne {t : Tr} {i j : Nat} (h : blk t i j = true) : i ≠ j := fun e => by
  subst e
  unfold blk at h
  simp at h
theorem end_of {t : Tr} (hf : faultOf t = none) {i j : Nat} (hi : i < t.length) (hj : j < t.length) (hb : blk t i j = true) : ∃ k, endO t (min i j) = some k ∧ k < max i j := by
  have ne := blk_ne hb
  rcases Nat.lt_or_gt_of_ne ne with z | z
  · rw [Nat.min_eq_left (by omega), Nat.max_eq_right (by omega)]
    obtain ⟨k, hk⟩ := end_ex hf hj z hb
    exact ⟨k, hk, end_lt hf hj (blk_takes hb).1 z hb hk⟩
  · rw [Nat.min_eq_right (by omega), Nat.max_eq_left (by omega)]
    rw [blk_comm] at hb
    obtain ⟨k, hk⟩ := end_ex hf hi z hb
    exact ⟨k, hk, end_lt hf hi (blk_takes hb).1 z hb hk⟩
/-! ### what a deriver does, plainly -/
def DS.need (e : Nat) (os : List Nat) (s : DS) : DS := os.foldl (fun s o => s.add (.nee o e)) s
def endS (t : Tr) (a b : Nat) : Stp := .fin ((endO t (min a b)).getD 0) (min a b) (max a b)
def DS.ending (t : Tr) (e : Nat) (ks : List Int) (s : DS) : DS := ks.foldl (fun s k => if ((Tr.at t k.toNat).nm.takes && blk t e k.toNat) = true then s.add (endS t e k.toNat) else s) s
def DS.follow (t : Tr) (e : Nat) (s : DS) : DS := if (Tr.at t e).nm.takes = true then (s.need e (needsN t e)).ending t e (akeys (s.need e (needsN t e)).st) else s.need e (needsN t e)
structure DS.Ok (n : Nat) (s : DS) : Prop where
  nd : (akeys s.st).Nodup
  lt : ∀ k ∈ akeys s.st, ∃ i : Nat, i < n ∧ k = (i : Int)
  wl : s.wt.length ≤ s.st.length
  wk : ∀ e ∈ s.wt, (e : Int) ∈ akeys s.st
theorem DS.Ok.len {n : Nat} {s : DS} (h : s.Ok n) : s.st.length ≤ n := by
  have := Few.len (n := n) (l := s.st.map fun p => (p.1, ())) ⟨by unfold akeys; rw [List.map_map]; exact h.nd, fun k hk => by
    unfold akeys at hk
    rw [List.map_map] at hk
    exact h.lt k hk⟩
  rw [List.length_map] at this
  exact this
theorem alook_key {α : Type} (l : List (Int × α)) (k : Int) : (alook l k).isSome = true ↔ k ∈ akeys l := by
  unfold alook akeys
  rw [Option.isSome_map, List.find?_isSome]
  constructor
  · rintro ⟨p, h1, h2⟩
    exact List.mem_map.mpr ⟨p, h1, of_decide_eq_true h2⟩
  · intro h
    obtain ⟨p, h1, h2⟩ := List.mem_map.mp h
    exact ⟨p, h1, decide_eq_true h2⟩
theorem DS.add_keys {s : DS} {x : Stp} : akeys (s.add x).st = if (x.ev : Int) ∈ akeys s.st then akeys s.st else akeys s.st ++ [(x.ev : Int)] := by
  unfold DS.add
  by_cases h : (x.ev : Int) ∈ akeys s.st
  · rw [if_pos ((alook_key _ _).mpr h), if_pos h]
  · rw [if_neg (fun z => h ((alook_key _ _).mp z)), if_neg h]
    show akeys (aput s.st (x.ev : Int) x) = _
    rw [aput_new h]
    unfold akeys
    rw [List.map_append]
    rfl
theorem DS.Ok.add {n : Nat} {s : DS} (h : s.Ok n) {x : Stp} (hx : x.ev < n) : (s.add x).Ok n := by
  by_cases hm : (x.ev : Int) ∈ akeys s.st
  · have e : s.add x = s := by
      unfold DS.add
      rw [if_pos ((alook_key _ _).mpr hm)]
    rw [e]
    exact h
  · have hk := DS.add_keys (s := s) (x := x)
    rw [if_neg hm] at hk
    have e : s.add x = ⟨aput s.st (x.ev : Int) x, s.wt ++ [x.ev]⟩ := by
      unfold DS.add
      rw [if_neg (fun z => hm ((alook_key _ _).mp z))]
    refine ⟨?_, fun k hk2 => ?_, ?_, fun e2 he => ?_⟩
    · rw [hk]
      refine List.nodup_append.mpr ⟨h.nd, by simp, fun a ha b hb => ?_⟩
      rw [List.mem_singleton.mp hb]
      exact fun z => hm (by rw [← z]; exact ha)
    · rw [hk] at hk2
      rcases List.mem_append.mp hk2 with z | z
      · exact h.lt k z
      · exact ⟨x.ev, hx, List.mem_singleton.mp z⟩
    · rw [e]
      show (s.wt ++ [x.ev]).length ≤ (aput s.st (x.ev : Int) x).length
      rw [aput_new hm, List.length_append, List.length_append]
      exact Nat.succ_le_succ h.wl
    · rw [hk]
      rw [e] at he
      rcases List.mem_append.mp he with z | z
      · exact List.mem_append_left _ (h.wk e2 z)
      · rw [List.mem_singleton.mp z]
        exact List.mem_append_right _ (by simp)
theorem DS.Ok.need {n : Nat} {e : Nat} : ∀ {os : List Nat} {s : DS}, s.Ok n → (∀ o ∈ os, o < n) → (s.need e os).Ok n
  | [], s, h, _ => h
  | o :: os, s, h, hs => DS.Ok.need (os := os) (h.add (x := .nee o e) (hs o List.mem_cons_self)) fun p hp => hs p (List.mem_cons_of_mem _ hp)
theorem DS.Ok.ending {t : Tr} (hf : faultOf t = none) {e : Nat} (he : e < t.length) : ∀ {ks : List Int} {s : DS}, s.Ok t.length → (∀ k ∈ ks, ∃ i : Nat, i < t.length ∧ k = (i : Int)) → (s.ending t e ks).Ok t.length
  | [], s, h, _ => h
  | k :: ks, s, h, hs => by
    unfold DS.ending
    rw [List.foldl_cons]
    refine DS.Ok.ending hf he (ks := ks) ?_ fun p hp => hs p (List.mem_cons_of_mem _ hp)
    obtain ⟨i, hi, rfl⟩ := hs k List.mem_cons_self
    split
    · rename_i hb
      rw [Bool.and_eq_true] at hb
      have hb2 : blk t e i = true := hb.2
      obtain ⟨m, hm, hl⟩ := end_of hf he hi hb2
      refine h.add (x := endS t e i) ?_
      show (endO t (min e i)).getD 0 < t.length
      rw [hm]
      show m < t.length
      omega
    · exact h
def sp_Deriver_follow (K : PySem.W.Frag) : Sp := fun vs H Q _ => ∃ Z x a1 a2 dx tv t s e, vs = [.ref x, .int (e : Nat)] ∧ DAt K Z H x a1 a2 dx tv t s ∧ ValidT t ∧ s.Ok t.length ∧ e < t.length ∧
  ∀ H', DAt K Z H' x a1 a2 dx tv t (s.follow t e) → OffD a1 a2 H H' → Q .non H'
def t_Deriver_follow (K : PySem.W.Frag) : TS := (tSeq (tFor (iSeq K (tOp (rIx K) (tFld K (tFld K (tVar 0) "ties") "needs") (tVar 1))) (gName 2) (tDrop (tMeth (He.ga K "Deriver") "add" (sp_Deriver_add K) [] E0 (tVar 0) (tCons (tTup (tCons (tC (.str "need")) (tCons (tVar 2) (tCons (tVar 1) tNil)))) tNil)))) (tSeq (tIfS (tTest (tOp (rNotInA K) (tVar 1) (tFld K (tFld K (tVar 0) "ties") "ends"))) tRetN tNext) (tFor (iSeq K (tCB (rLstA K) (tCons (tFld K (tVar 0) "steps") tNil))) (gName 3) (tIfS (tAnd (tTest (tOp (rInA K) (tVar 3) (tFld K (tFld K (tVar 0) "ties") "ends"))) (tB (tCall (sp_are_blocking K) [] E0 (tCons (tFld K (tFld K (tVar 0) "ties") "base") (tCons (tVar 1) (tCons (tVar 3) tNil)))))) (tSeq (tPar 4 5 (tCons (tCB rMin2 (tCons (tVar 1) (tCons (tVar 3) tNil))) (tCons (tCB rMax2 (tCons (tVar 1) (tCons (tVar 3) tNil))) tNil))) (tDrop (tMeth (He.ga K "Deriver") "add" (sp_Deriver_add K) [] E0 (tVar 0) (tCons (tTup (tCons (tC (.str "end")) (tCons (tDGet (tFld K (tFld K (tVar 0) "ties") "ends") (tVar 4)) (tCons (tVar 4) (tCons (tVar 5) tNil))))) tNil)))) tNext))))
theorem go_follow {w : World} {K : PySem.W.Frag} {mg : Str → Option Value} (T : Txt w K mg) {t : Tr} (V : ValidT t) {e : Nat} (he : e < t.length) {s : DS} (ok : s.Ok t.length) :
    RunD K t (t_Deriver_follow K) [.dat (natD e), .un, .un, .un, .un] s { nx := fun _ s' => s' = s.follow t e, rt := fun s' => s' = s.follow t e } := by
  obtain ⟨⟨_, hz⟩, hf, _⟩ := V
  have nl := fun o (ho : o ∈ needsN t e) => needs_lt hf he ho
  have tiesE : ∀ (ρ : List Sl) (a1 a2 : Addr), Ev K (tFld K (tVar 0) "ties") (.dat (selfD K t a1 a2) :: ρ) (tiesD K t) := fun ρ a1 a2 => ev_fld (ev_var rfl) T.cl_Deriver T.na_Deriver_ties rfl
  have endsE : ∀ (ρ : List Sl) (a1 a2 : Addr), Ev K (tFld K (tFld K (tVar 0) "ties") "ends") (.dat (selfD K t a1 a2) :: ρ) (dkI optD (ends t)) := fun ρ a1 a2 => ev_fld (tiesE ρ a1 a2) T.cl_Ties T.na_Ties_ends rfl
  refine d_seq (d_for (ds := (needs t e).map .int) (sl := [2]) (di_of fun a1 a2 => ei_seqT (ev_op (ev_fld (tiesE _ a1 a2) T.cl_Ties T.na_Ties_needs rfl) (ev_var rfl) (rv_ixL ((atI_nat (by rw [List.length_map, List.length_range]; exact he)).trans ?_))))
    (fun m ρ s' => s' = s.need e ((needsN t e).take m) ∧ ∃ s2 s3 s4 s5, ρ = [.dat (natD e), s2, s3, s4, s5]) ⟨rfl, _, _, _, _, rfl⟩ (by decide) ?_ ?_)
  · rw [List.getElem?_map, List.getElem?_range he]
    rfl
  · intro m d ρ2 s2 hm ⟨es, z2, z3, z4, z5, eρ⟩
    subst es eρ
    rw [needs_cast, List.map_map, List.getElem?_map] at hm
    obtain ⟨o, ho, rfl⟩ := Option.map_eq_some_iff.mp hm
    have tk : (needsN t e).take (m + 1) = (needsN t e).take m ++ [o] := by rw [List.take_add_one, ho]; rfl
    have ok2 : (s.need e ((needsN t e).take m)).Ok t.length := ok.need fun p hp => Nat.lt_trans (nl p (List.mem_of_mem_take hp)) he
    have l1 := ok2.len
    have l2 := ok2.wl
    refine ⟨_, fun a1 a2 => tg_name, d_add (w := .nee o e) (fun a1 a2 => ev_tup (ea_cons ev_str (ea_cons (ev_var rfl) (ea_cons (ev_var rfl) ea_nil))) (show 3 ≤ sizeLine by decide)) (by omega) (by omega) ⟨?_, _, _, _, _, rfl⟩⟩
    rw [tk]
    unfold DS.need
    rw [List.foldl_append]
    rfl
  · intro ρ2 s2 ⟨es, z2, z3, z4, z5, eρ⟩
    subst eρ
    rw [needs_cast, List.length_map, List.length_map, List.take_length] at es
    subst es
    have ok1 : (s.need e (needsN t e)).Ok t.length := ok.need fun p hp => Nat.lt_trans (nl p hp) he
    refine d_seq (d_if (b := !(Tr.at t e).nm.takes) (fun a1 a2 => et_test ((ev_op (ev_var rfl) (endsE _ a1 a2) (rv_notind (k := .inl (e : Int)))).is ?_)) (fun hb => d_retN ?_) fun hb => d_next ?_)
    · rw [dget_I, Option.isSome_map, ends_some he]
    · show _ = s.follow t e
      unfold DS.follow
      rw [if_neg (by rw [show (Tr.at t e).nm.takes = false by simpa using hb]; decide)]
    · have ht : (Tr.at t e).nm.takes = true := by simpa using hb
      refine d_for (ds := (akeys (s.need e (needsN t e)).st).map .int) (sl := [3]) (di_steps T.cl_Deriver T.na_Deriver_steps)
        (fun m ρ s' => s' = (s.need e (needsN t e)).ending t e ((akeys (s.need e (needsN t e)).st).take m) ∧ ∃ s2 s3 s4 s5, ρ = [.dat (natD e), s2, s3, s4, s5]) ⟨rfl, _, _, _, _, rfl⟩ (by decide) ?_ ?_
      · intro m d ρ2 s2 hm ⟨es, z2, z3, z4, z5, eρ⟩
        subst es eρ
        rw [List.getElem?_map] at hm
        obtain ⟨k, hk, rfl⟩ := Option.map_eq_some_iff.mp hm
        have tk : (akeys (s.need e (needsN t e)).st).take (m + 1) = (akeys (s.need e (needsN t e)).st).take m ++ [k] := by rw [List.take_add_one, hk]; rfl
        obtain ⟨i, hi, rfl⟩ := ok1.lt k (List.mem_of_getElem? hk)
        have ok2 : ((s.need e (needsN t e)).ending t e ((akeys (s.need e (needsN t e)).st).take m)).Ok t.length := ok1.ending hf he fun p hp => ok1.lt p (List.mem_of_mem_take hp)
        have l1 := ok2.len
        have l2 := ok2.wl
        generalize hS : (s.need e (needsN t e)).ending t e ((akeys (s.need e (needsN t e)).st).take m) = S at ok2 l1 l2
        have nxt : (s.need e (needsN t e)).ending t e ((akeys (s.need e (needsN t e)).st).take (m + 1)) = if ((Tr.at t i).nm.takes && blk t e i) = true then S.add (endS t e i) else S := by
          rw [tk]
          unfold DS.ending
          rw [List.foldl_append]
          show (if _ then DS.add (DS.ending _ _ _ _) _ else DS.ending _ _ _ _) = _
          rw [hS]
          rfl
        refine ⟨_, fun a1 a2 => tg_name, d_if (b := (Tr.at t i).nm.takes && blk t e i) (fun a1 a2 => et_and (et_test ((ev_op (ev_var rfl) (endsE _ a1 a2) (rv_ind (k := .inl (i : Int)))).is ?_)) fun _ => et_B (ev_call ((t, e, i) : Tr × Nat × Nat) (ea_cons (ev_fld (tiesE _ a1 a2) T.cl_Ties T.na_Ties_base rfl) (ea_cons (ev_var rfl) (ea_cons (ev_var rfl) ea_nil))) ⟨he, hi⟩)) (fun hb => ?_) fun hb => ?_⟩
        · rw [dget_I, Option.isSome_map, ends_some hi]
        · have hb2 : blk t e i = true := by rw [Bool.and_eq_true] at hb; exact hb.2
          obtain ⟨q, hq, _⟩ := end_of hf he hi hb2
          have hmt : min e i ∈ takers t := by
            obtain ⟨g1, g2⟩ := blk_takes hb2
            refine takers_mem.mpr ⟨by omega, ?_⟩
            rcases Nat.le_total e i with z | z
            · rw [Nat.min_eq_left z]; exact g1
            · rw [Nat.min_eq_right z]; exact g2
          refine d_seq (d_par (i := 3) (j := 4) (d := natD (min e i)) (e := natD (max e i)) (fun a1 a2 => ea_cons (Ev.is (ev_cb (ea_cons (ev_var rfl) (ea_cons (ev_var rfl) ea_nil)) rc_min2) ?_) (ea_cons (Ev.is (ev_cb (ea_cons (ev_var rfl) (ea_cons (ev_var rfl) ea_nil)) rc_max2) ?_) ea_nil)) ?_)
          · show Dt.int (if (i : Int) < (e : Int) then (i : Int) else (e : Int)) = .int ((min e i : Nat) : Int)
            congr 1
            split <;> omega
          · show Dt.int (if (i : Int) > (e : Int) then (i : Int) else (e : Int)) = .int ((max e i : Nat) : Int)
            congr 1
            split <;> omega
          · refine d_add (w := endS t e i) (fun a1 a2 => Ev.is (ev_tup (ea_cons ev_str (ea_cons (ev_dget (k := .inl ((min e i : Nat) : Int)) (endsE _ a1 a2).rd (ev_var rfl) (f := natD q) ?_) (ea_cons (ev_var rfl) (ea_cons (ev_var rfl) ea_nil)))) (show 4 ≤ sizeLine by decide)) ?_) (by omega) (by omega) ⟨?_, _, _, _, _, rfl⟩
            · rw [dget_I, ends_look hmt, hq]
              rfl
            · show Dt.tup [.str "end", natD q, natD (min e i), natD (max e i)] = Stp.D (endS t e i)
              unfold endS
              rw [hq]
              rfl
            · rw [nxt, if_pos hb]
        · refine d_next ⟨?_, _, _, _, _, rfl⟩
          rw [nxt, if_neg (by rw [hb]; decide)]
      · intro ρ2 s2 ⟨es, _⟩
        rw [List.length_map, List.take_length] at es
        rw [es]
        show _ = s.follow t e
        unfold DS.follow
        rw [if_pos ht]
theorem run_Deriver_follow {w : World} {K : PySem.W.Frag} {mg : Str → Option Value} (T : Txt w K mg) (vs : List V) (H : Hp) (Q : VK) (E : XK) (hyp : sp_Deriver_follow K vs H Q E) : t_Deriver_follow K { nx := fun _ H' => Q .non H', rt := Q } (L2.start ["self", "event", "one", "other", "early", "late"] vs) H := by
  obtain ⟨Z, x, a1, a2, dx, tv, t, s, e, rfl, D, V, ok, he, q⟩ := hyp
  refine go_follow T V he ok Z x a1 a2 dx tv H _ _ ⟨D, D.envS (N := ["self", "event", "one", "other", "early", "late"]) (n := 4) (ds := [natD e]) (vs := [.int (e : Nat)]) ⟨_, _, rfl, rfl, rfl⟩ rfl, rfl⟩ (fun ρ' s' σ' H' hs I o => ?_) fun s' H' hs d o => ?_
  · exact q H' (by rw [← (show s' = s.follow t e from hs)]; exact I.d) o
  · exact q H' (by rw [← (show s' = s.follow t e from hs)]; exact d) o
theorem ok_Deriver_follow {P : Program} {w : World} {K : PySem.W.Frag} {mg : Str → Option Value} {base : Heap} (T : Txt w K mg) : MDef P w K mg base (He.ga K "Deriver") "follow" ["self", "event"] 12 (sp_Deriver_follow K) := by
  obtain ⟨f, fd, M, F⟩ := T.mt_Deriver_follow
  refine ⟨f, fd, M, FunD.bindsN F (fun _ _ _ _ _ _ us hl => match us, hl with | [_, _], _ => rfl), FunD.ok F sc_Deriver_follow (fun vs H Q E h => ?_) (fun cdv A outer s H vs Q E hr h => ⟨t_Deriver_follow K, PSs.nox ?_, run_Deriver_follow T vs H Q E h⟩)⟩
  · obtain ⟨Z, x, a1, a2, dx, tv, t, s, e, rfl, _⟩ := h
    rfl
  · exact (pss_cons (ps_for PassesOwn.never rfl (pi_seq (pe_ix ix_seq (pe_fld (pe_fld (pv 0) rfl) rfl) (pv 1) (fun _ _ => rfl))) (pg_name (i := 2) sc_Deriver_follow.nd rfl (by first | exact Or.inl rfl | exact Or.inr rfl)) (pss_one (ps_expr (pe_methD (pv 0) T.cl_Deriver (ok_Deriver_add T) hr (by decide) (pa_cons (pe_tup (pa_cons (pe_gstr T.c_NEED rfl) (pa_cons (pv 2) (pa_cons (pv 1) pa_nil)))) pa_nil))))) (pss_cons (ps_if (pt_cmpR (op_notinA (hu65 hr)) (pv 1) (pe_fld (pe_fld (pv 0) rfl) rfl) (by rfl)) (pss_one ps_retN) pss_nil) (pss_one (ps_for PassesOwn.never rfl (pi_seq (pe_callTy (call_lstA rfl) (by rfl) T.b_list (by decide +kernel) (pa_cons (pe_fld (pv 0) rfl) pa_nil))) (pg_name (i := 3) sc_Deriver_follow.nd rfl (by first | exact Or.inl rfl | exact Or.inr rfl)) (pss_one (ps_if (PW.pt (pw_and (pt_cmpR (op_inA (hu65 hr)) (pv 3) (pe_fld (pe_fld (pv 0) rfl) rfl) (by rfl)) (pw_and1 (pt_val (pe_callD (ok_are_blocking T) hr (by decide) (by rfl) (pa_cons (pe_fld (pe_fld (pv 0) rfl) rfl) (pa_cons (pv 1) (pa_cons (pv 3) pa_nil)))))))) (pss_cons (ps_par (by rfl) sc_Deriver_follow.nd rfl rfl (by decide) rfl rfl (pa_cons (pe_callB (call_min2 rfl) (by rfl) T.b_min (by decide +kernel) (pa_cons (pv 1) (pa_cons (pv 3) pa_nil))) (pa_cons (pe_callB (call_max2 rfl) (by rfl) T.b_max (by decide +kernel) (pa_cons (pv 1) (pa_cons (pv 3) pa_nil))) pa_nil)) (by rfl)) (pss_one (ps_expr (pe_methD (pv 0) T.cl_Deriver (ok_Deriver_add T) hr (by decide) (pa_cons (pe_tup (pa_cons (pe_gstr T.c_END rfl) (pa_cons (pe_dget (hu_of hr) (pe_fld (pe_fld (pv 0) rfl) rfl) (pv 4) (fun _ _ => rfl)) (pa_cons (pv 4) (pa_cons (pv 5) pa_nil))))) pa_nil))))) pss_nil))))))
end DL
namespace DL
open PySem PySem.Spec L2
theorem sc_Deriver_settle : FnScope ["self"] ["self"] (defScope (inClass s_Deriver 1)) := ⟨rfl, rfl, rfl, by decide +kernel, rfl, by decide +kernel, by decide +kernel⟩
def DS.run (t : Tr) : Nat → DS → DS
  | 0, s => s
  | n + 1, ⟨st, []⟩ => ⟨st, []⟩
  | n + 1, ⟨st, e :: r⟩ => DS.run t n (DS.follow t e ⟨st, r⟩)
theorem DS.run_done (t : Tr) (st : List (Int × Stp)) : ∀ n, DS.run t n ⟨st, []⟩ = ⟨st, []⟩
  | 0 => rfl
  | n + 1 => rfl
def DS.rank (n : Nat) (s : DS) : Nat := (n - s.st.length) + s.wt.length
def DS.settle (t : Tr) (s : DS) : DS := DS.run t (s.rank t.length) s
theorem DS.add_diff (s : DS) (x : Stp) : (s.add x).st.length + s.wt.length = s.st.length + (s.add x).wt.length ∧ s.st.length ≤ (s.add x).st.length := by
  unfold DS.add
  by_cases h : (alook s.st (x.ev : Int)).isSome = true
  · rw [if_pos h]
    exact ⟨rfl, Nat.le_refl _⟩
  · rw [if_neg h]
    show (aput s.st (x.ev : Int) x).length + _ = _ + (s.wt ++ [x.ev]).length ∧ _ ≤ (aput s.st (x.ev : Int) x).length
    rw [aput_new fun z => h ((alook_key _ _).mpr z), List.length_append, List.length_append]
    simp only [List.length_cons, List.length_nil]
    omega
theorem DS.need_diff (e : Nat) : ∀ (os : List Nat) (s : DS), (s.need e os).st.length + s.wt.length = s.st.length + (s.need e os).wt.length ∧ s.st.length ≤ (s.need e os).st.length
  | [], s => ⟨rfl, Nat.le_refl _⟩
  | o :: os, s => by
    have h1 := DS.add_diff s (.nee o e)
    have h2 := DS.need_diff e os (s.add (.nee o e))
    have e1 : s.need e (o :: os) = (s.add (.nee o e)).need e os := rfl
    rw [e1]
    omega
theorem DS.ending_diff (t : Tr) (e : Nat) : ∀ (ks : List Int) (s : DS), (s.ending t e ks).st.length + s.wt.length = s.st.length + (s.ending t e ks).wt.length ∧ s.st.length ≤ (s.ending t e ks).st.length
  | [], s => ⟨rfl, Nat.le_refl _⟩
  | k :: ks, s => by
    have h1 := DS.add_diff s (endS t e k.toNat)
    have h2 := DS.ending_diff t e ks (if ((Tr.at t k.toNat).nm.takes && blk t e k.toNat) = true then s.add (endS t e k.toNat) else s)
    have e1 : s.ending t e (k :: ks) = (if ((Tr.at t k.toNat).nm.takes && blk t e k.toNat) = true then s.add (endS t e k.toNat) else s).ending t e ks := rfl
    rw [e1]
    split at h2 <;> rename_i hb
    · rw [if_pos hb]; omega
    · rw [if_neg hb]; omega
theorem DS.follow_diff (t : Tr) (e : Nat) (s : DS) : (s.follow t e).st.length + s.wt.length = s.st.length + (s.follow t e).wt.length ∧ s.st.length ≤ (s.follow t e).st.length := by
  have h1 := DS.need_diff e (needsN t e) s
  unfold DS.follow
  split
  · have h2 := DS.ending_diff t e (akeys (s.need e (needsN t e)).st) (s.need e (needsN t e))
    omega
  · exact h1
theorem DS.Ok.follow {t : Tr} (hf : faultOf t = none) {e : Nat} (he : e < t.length) {s : DS} (h : s.Ok t.length) : (s.follow t e).Ok t.length := by
  have h1 : (s.need e (needsN t e)).Ok t.length := h.need fun o ho => Nat.lt_trans (needs_lt hf he ho) he
  unfold DS.follow
  split
  · exact h1.ending hf he fun k hk => h1.lt k hk
  · exact h1
theorem DS.Ok.pop {n e : Nat} {st : List (Int × Stp)} {r : List Nat} (h : DS.Ok n ⟨st, e :: r⟩) : DS.Ok n ⟨st, r⟩ ∧ e < n := by
  refine ⟨⟨h.nd, h.lt, Nat.le_of_succ_le h.wl, fun k hk => h.wk k (List.mem_cons_of_mem _ hk)⟩, ?_⟩
  obtain ⟨i, h1, h2⟩ := h.lt _ (h.wk e List.mem_cons_self)
  omega
theorem DS.rank_follow {t : Tr} (hf : faultOf t = none) {e : Nat} {st : List (Int × Stp)} {r : List Nat} (h : DS.Ok t.length ⟨st, e :: r⟩) : (DS.follow t e ⟨st, r⟩).rank t.length + 1 = DS.rank t.length ⟨st, e :: r⟩ := by
  obtain ⟨h1, h2⟩ := h.pop
  have h3 := h1.len
  have h4 := (h1.follow hf h2).len
  have h5 := DS.follow_diff t e ⟨st, r⟩
  unfold DS.rank
  show _ = (t.length - st.length) + (r.length + 1)
  have h5a : (DS.follow t e ⟨st, r⟩).st.length + r.length = st.length + (DS.follow t e ⟨st, r⟩).wt.length := h5.1
  have h5b : st.length ≤ (DS.follow t e ⟨st, r⟩).st.length := h5.2
  have h3 : st.length ≤ t.length := h3
  omega
theorem DS.settle_step {t : Tr} (hf : faultOf t = none) {e : Nat} {st : List (Int × Stp)} {r : List Nat} (h : DS.Ok t.length ⟨st, e :: r⟩) : DS.settle t ⟨st, e :: r⟩ = DS.settle t (DS.follow t e ⟨st, r⟩) := by
  have := DS.rank_follow hf h
  unfold DS.settle
  rw [← this]
  rfl
theorem DAt.pop {K : PySem.W.Frag} {Z : List Addr} {H : Hp} {x a1 a2 dx : Addr} {tv : V} {t : Tr} {st : List (Int × Stp)} {e : Nat} {r : List Nat} (D : DAt K Z H x a1 a2 dx tv t ⟨st, e :: r⟩) : DAt K Z (upd H a2 (.lst (nsV r))) x a1 a2 dx tv t ⟨st, r⟩ ∧ OffD a1 a2 H (upd H a2 (.lst (nsV r))) := by
  obtain ⟨n1, n2, n3⟩ := D.ne
  obtain ⟨z, h1, h2⟩ := D.st
  have hc : cut (upd H a2 (.lst (nsV r))) (x :: a1 :: a2 :: Z) = cut H (x :: a1 :: a2 :: Z) := cut_upd_in (by simp)
  exact ⟨⟨by rw [upd_ne n2]; exact D.o, by rw [hc]; exact D.ti, ⟨z, by rw [upd_ne n3]; exact h1, by rw [hc]; exact h2⟩, upd_same, fun a ha => by (by_cases z : a = a2; rw [z, upd_same]; exact fun z => (by cases z); rw [upd_ne z]; exact D.zd a ha), D.xz⟩, fun b o _ h g => by rw [upd_ne h]; exact g⟩
def sp_Deriver_settle (K : PySem.W.Frag) : Sp := fun vs H Q _ => ∃ Z x a1 a2 dx tv t s, vs = [.ref x] ∧ DAt K Z H x a1 a2 dx tv t s ∧ ValidT t ∧ s.Ok t.length ∧
  ∀ H', DAt K Z H' x a1 a2 dx tv t (s.settle t) → OffD a1 a2 H H' → Q .non H'
def t_Deriver_settle (K : PySem.W.Frag) : TS := (tWhile (tTest (tOp (rNeA K) (tFld K (tVar 0) "waiting") (tLst tNil))) (tDrop (tMeth (He.ga K "Deriver") "follow" (sp_Deriver_follow K) [] E0 (tVar 0) (tCons (tBM K "list" rPopAt (tFld K (tVar 0) "waiting") (tCons (tC (.int 0)) tNil)) tNil))))
theorem go_settle {w : World} {K : PySem.W.Frag} {mg : Str → Option Value} (T : Txt w K mg) {t : Tr} (V : ValidT t) {s : DS} (ok : s.Ok t.length) :
    RunD K t (t_Deriver_settle K) [] s { nx := fun _ s' => s' = s.settle t } := fun Z x a1 a2 dx tv H σ D I n r => by
  refine ⟨fun m σ2 H2 => ∃ s2 : DS, s2.rank t.length = m ∧ s2.Ok t.length ∧ EnvD K Z t x a1 a2 dx tv s2 [] σ2 H2 ∧ OffD a1 a2 H H2 ∧ s2.settle t = s.settle t, ⟨_, s, rfl, ok, I, .of (Same.refl H), rfl⟩, fun m σ2 H2 hW => ?_⟩
  obtain ⟨s2, hm, ok2, I2, o2, e2⟩ := hW
  refine ⟨.ref x, I2.x, x, _, dx, _, .ref a2, rfl, I2.d.o, T.cl_Deriver, T.na_Deriver_waiting, rfl, by decide, fun p hp => ?_⟩
  have I3 : EnvD K Z t x a1 a2 dx tv s2 [] σ2 (upd H2 p (.lst [])) := I2.mono (same_new hp)
  have hw : HasR K [] [] (upd H2 p (.lst [])) (.lst (nsD s2.wt)) (.ref a2) := .inl ⟨a2, nsV s2.wt, rfl, .inl (by rw [show ([] : List Addr) ++ [] = [] from rfl, cut_nil]; exact I3.d.wt), by
    rw [nsD, nsV]
    have := HasL.of_ints (K := K) (H := cut (upd H2 p (.lst [])) ([] ++ [])) (ns := s2.wt.map fun (i : Nat) => (i : Int))
    rw [List.map_map, List.map_map] at this
    exact this⟩
  have hp2 : HasR K [] [] (upd H2 p (.lst [])) (.lst []) (.ref p) := .inl ⟨p, [], rfl, .inl (by rw [show ([] : List Addr) ++ [] = [] from rfl, cut_nil]; exact upd_same), rfl⟩
  refine rv_neD (lay_nsD s2.wt) (lay_nsD []) (by decide) (by decide) [] [] _ _ _ (fun a ha => by cases ha) hw hp2 _ fun v H4 s4 hv => ?_
  have I4 := I3.mono s4
  have o4 : OffD a1 a2 H H4 := o2.trans (.of ((same_new hp).trans s4))
  rw [show (nsD ([] : List Nat)) = [] from rfl, deq_nil] at hv
  refine ⟨!s2.wt.isEmpty, hv, ?_⟩
  obtain ⟨st, wt⟩ := s2
  cases wt with
  | nil =>
    show D.nx σ2 H4
    refine n [] ⟨st, []⟩ σ2 H4 ?_ I4 o4
    show (⟨st, []⟩ : DS) = s.settle t
    rw [← e2]
    exact (DS.run_done t st _).symm
  | cons e r =>
    refine ⟨fun σ5 H5 => EnvD K Z t x a1 a2 dx tv (DS.follow t e ⟨st, r⟩) [] σ5 H5 ∧ OffD a1 a2 H H5, fun σ5 H5 ⟨I5, o5⟩ => ⟨_, ?_, _, rfl, ?_, I5, o5, ?_⟩, ?_⟩
    · have := DS.rank_follow V.2.1 ok2
      omega
    · exact ok2.pop.1.follow V.2.1 ok2.pop.2
    · rw [← e2]
      exact (DS.settle_step V.2.1 ok2).symm
    · have hl : tyV K "list" (.ref a2) H4 := ty_list (K := K) (O := []) (Y := []) (ds := nsD (e :: r)) (.inl ⟨a2, nsV (e :: r), rfl, .inl (by rw [show ([] : List Addr) ++ [] = [] from rfl, cut_nil]; exact I4.d.wt), by
        rw [nsD, nsV]
        have := HasL.of_ints (K := K) (H := cut H4 ([] ++ [])) (ns := (e :: r).map fun (i : Nat) => (i : Int))
        rw [List.map_map, List.map_map] at this
        exact this⟩)
      obtain ⟨d5, o5⟩ := I4.d.pop
      have I5 := I4.off d5 o5
      refine ⟨.ref x, I4.x, x, dx, _, rfl, I4.d.o, rfl, .ref x, I4.x, x, _, dx, _, .ref a2, rfl, I4.d.o, T.cl_Deriver, T.na_Deriver_waiting, rfl, hl, a2, nsV (e :: r), 0, 0, .int (e : Nat), rfl, rfl, I4.d.wt, by decide, by decide, ?_, rfl, ?_⟩
      · exact (ixN_seq (i := 0) (n := (nsV (e :: r)).length) (j := 0) (ixN_nat (i := 0) (by unfold nsV; simp))).1
      · refine ⟨Z, x, a1, a2, dx, tv, t, ⟨st, r⟩, e, rfl, d5, V, ok2.pop.1, ok2.pop.2, fun H6 d6 o6 => ⟨I5.off d6 o6, o4.trans (o5.trans o6)⟩⟩
theorem run_Deriver_settle {w : World} {K : PySem.W.Frag} {mg : Str → Option Value} (T : Txt w K mg) (vs : List V) (H : Hp) (Q : VK) (E : XK) (hyp : sp_Deriver_settle K vs H Q E) : t_Deriver_settle K { nx := fun _ H' => Q .non H', rt := Q } (L2.start ["self"] vs) H := by
  obtain ⟨Z, x, a1, a2, dx, tv, t, s, rfl, D, V, ok, q⟩ := hyp
  refine go_settle T V ok Z x a1 a2 dx tv H _ _ ⟨D, D.envS (N := ["self"]) (n := 0) (ds := []) (vs := []) rfl rfl, rfl⟩ (fun ρ' s' σ' H' hs I o => ?_) fun s' H' hs d o => False.elim hs
  exact q H' (by rw [← (show s' = s.settle t from hs)]; exact I.d) o
theorem d_settle {K : PySem.W.Frag} {t : Tr} {s : DS} {ρ : List Sl} {P : PD} (V : ValidT t) (ok : s.Ok t.length) (k : P.nx ρ (s.settle t)) :
    RunD K t (tDrop (tMeth (He.ga K "Deriver") "settle" (sp_Deriver_settle K) [] E0 (tVar 0) tNil)) ρ s P := fun Z x a1 a2 dx tv H σ D I n r =>
  ⟨.ref x, I.x, x, dx, _, rfl, I.d.o, rfl, Z, x, a1, a2, dx, tv, t, s, rfl, I.d, V, ok, fun H2 d2 o2 => n ρ _ σ H2 k (I.off d2 o2) o2⟩
theorem ok_Deriver_settle {P : Program} {w : World} {K : PySem.W.Frag} {mg : Str → Option Value} {base : Heap} (T : Txt w K mg) : MDef P w K mg base (He.ga K "Deriver") "settle" ["self"] 13 (sp_Deriver_settle K) := by
  obtain ⟨f, fd, M, F⟩ := T.mt_Deriver_settle
  refine ⟨f, fd, M, FunD.bindsN F (fun _ _ _ _ _ _ us hl => match us, hl with | [_], _ => rfl), FunD.ok F sc_Deriver_settle (fun vs H Q E h => ?_) (fun cdv A outer s H vs Q E hr h => ⟨t_Deriver_settle K, PSs.nox ?_, run_Deriver_settle T vs H Q E h⟩)⟩
  · obtain ⟨Z, x, a1, a2, dx, tv, t, s, rfl, _⟩ := h
    rfl
  · exact (pss_one (ps_while PassesOwn.never (pt_cmpR (op_neA (hu65 hr)) (pe_fld (pv 0) rfl) (pe_lst pa_nil) (nomark _)) (pss_one (ps_expr (pe_methD (pv 0) T.cl_Deriver (ok_Deriver_follow T) hr (by decide) (pa_cons (pe_bm PySem.F.plainAttrs_list PySem.F.slot_list_pop PySem.F.type_list_pop mt_popAt (pe_fld (pv 0) rfl) (pa_cons pe_int pa_nil)) pa_nil))))))
end DL
namespace DL
open PySem PySem.Spec L2
theorem sc_Deriver___init__ : FnScope ["self", "ties", "given", "event"] ["self", "ties", "given"] (defScope (inClass s_Deriver 0)) := ⟨rfl, rfl, rfl, by decide +kernel, rfl, by decide +kernel, by decide +kernel⟩
def DS.given (l : List Nat) : DS := l.foldl (fun s e => s.add (.giv e)) ⟨[], []⟩
theorem DS.ok_nil (n : Nat) : DS.Ok n ⟨[], []⟩ := ⟨by simp [akeys], fun k hk => by simp [akeys] at hk, Nat.le_refl _, fun e he => by cases he⟩
theorem DS.Ok.given {n : Nat} : ∀ {l : List Nat} {s : DS}, s.Ok n → (∀ e ∈ l, e < n) → (l.foldl (fun s e => s.add (.giv e)) s).Ok n
  | [], s, h, _ => h
  | e :: l, s, h, hs => DS.Ok.given (l := l) (h.add (x := .giv e) (hs e List.mem_cons_self)) fun p hp => hs p (List.mem_cons_of_mem _ hp)
/-- what a deriver of some events ends with -/
def derN (t : Tr) (l : List Nat) : DS := (DS.given l).settle t
def sp_Deriver___init__ (K : PySem.W.Frag) : Sp := fun vs H Q _ => ∃ Z x dx tv lv t l, vs = [.ref x, tv, lv] ∧ H x = some (.ins (He.ga K "Deriver") dx []) ∧ (x ∉ Z ∧ ∀ a ∈ Z, H a ≠ none) ∧ ValidT t ∧ Has K (cut H (x :: Z)) (tiesD K t) tv ∧ Has K (cut H (x :: Z)) (.tup (nsD l)) lv ∧ (∀ i ∈ l, i < t.length) ∧
  ∀ a1 a2 H', H a1 = none → H a2 = none → DAt K Z H' x a1 a2 dx tv t (derN t l) → (∀ b o, b ≠ x → H b = some o → H' b = some o) → Q .non H'
def t_Deriver___init__ (K : PySem.W.Frag) : TS := (tSeq (sFld K (tVar 0) (tVar 1) "ties") (tSeq (sFld K (tVar 0) tDNewK "steps") (tSeq (sFld K (tVar 0) (tLst tNil) "waiting") (tSeq (tFor (iSeq K (tVar 2)) (gName 3) (tDrop (tMeth (He.ga K "Deriver") "add" (sp_Deriver_add K) [] E0 (tVar 0) (tCons (tTup (tCons (tC (.str "given")) (tCons (tVar 3) tNil))) tNil)))) (tDrop (tMeth (He.ga K "Deriver") "settle" (sp_Deriver_settle K) [] E0 (tVar 0) tNil))))))
theorem go_init {w : World} {K : PySem.W.Frag} {mg : Str → Option Value} (T : Txt w K mg) {t : Tr} (V : ValidT t) {l : List Nat} (hl : ∀ i ∈ l, i < t.length) :
    RunD K t (tSeq (tFor (iSeq K (tVar 2)) (gName 3) (tDrop (tMeth (He.ga K "Deriver") "add" (sp_Deriver_add K) [] E0 (tVar 0) (tCons (tTup (tCons (tC (.str "given")) (tCons (tVar 3) tNil))) tNil)))) (tDrop (tMeth (He.ga K "Deriver") "settle" (sp_Deriver_settle K) [] E0 (tVar 0) tNil)))
      [.dat (tiesD K t), .dat (.tup (nsD l)), .un] ⟨[], []⟩ { nx := fun _ s' => s' = derN t l } := by
  have hz : t.length ≤ 100000 := V.1.2
  refine d_seq (d_for (ds := nsD l) (sl := [3]) (di_of fun a1 a2 => ei_seqT (ev_var rfl)) (fun m ρ s' => s' = (l.take m).foldl (fun s e => s.add (.giv e)) ⟨[], []⟩ ∧ ∃ s3, ρ = [.dat (tiesD K t), .dat (.tup (nsD l)), s3]) ⟨rfl, _, rfl⟩ (by decide) ?_ ?_)
  · intro m d ρ2 s2 hm ⟨es, z3, eρ⟩
    subst es eρ
    rw [nsD, List.getElem?_map] at hm
    obtain ⟨o, ho, rfl⟩ := Option.map_eq_some_iff.mp hm
    have tk : l.take (m + 1) = l.take m ++ [o] := by rw [List.take_add_one, ho]; rfl
    have ok2 : ((l.take m).foldl (fun s e => s.add (.giv e)) (⟨[], []⟩ : DS)).Ok t.length := (DS.ok_nil _).given fun p hp => hl p (List.mem_of_mem_take hp)
    have l1 := ok2.len
    have l2 := ok2.wl
    refine ⟨_, fun a1 a2 => tg_name, d_add (w := .giv o) (fun a1 a2 => ev_tup (ea_cons ev_str (ea_cons (ev_var rfl) ea_nil)) (show 2 ≤ sizeLine by decide)) (by omega) (by omega) ⟨?_, _, rfl⟩⟩
    rw [tk, List.foldl_append]
    rfl
  · intro ρ2 s2 ⟨es, z3, eρ⟩
    rw [nsD_len, List.take_length] at es
    subst es
    exact d_settle V ((DS.ok_nil _).given hl) rfl
theorem run_Deriver___init__ {w : World} {K : PySem.W.Frag} {mg : Str → Option Value} (T : Txt w K mg) (vs : List V) (H : Hp) (Q : VK) (E : XK) (hyp : sp_Deriver___init__ K vs H Q E) : t_Deriver___init__ K { nx := fun _ H' => Q .non H', rt := Q } (L2.start ["self", "ties", "given", "event"] vs) H := by
  obtain ⟨Z, x, dx, tv, lv, t, l, rfl, hx, ⟨xZ, zd⟩, V, ht, hl, hin, q⟩ := hyp
  refine ⟨tv, rfl, .ref x, rfl, x, _, dx, [], rfl, hx, T.cl_Deriver, T.na_Deriver_ties, by decide, ?_⟩
  intro a1 n1
  obtain ⟨n1a, n1x⟩ := upd_none n1
  refine ⟨.ref x, rfl, x, _, dx, _, rfl, by rw [upd_ne (Ne.symm n1x), upd_same], T.cl_Deriver, T.na_Deriver_steps, (by show 1 < 1000; decide), ?_⟩
  refine ⟨by decide, fun a2 n2 => ?_⟩
  obtain ⟨n2a, n2x⟩ := upd_none n2
  obtain ⟨n2b, n21⟩ := upd_none n2a
  obtain ⟨n2c, _⟩ := upd_none n2b
  refine ⟨.ref x, rfl, x, _, dx, _, rfl, by rw [upd_ne (Ne.symm n2x), upd_same], T.cl_Deriver, T.na_Deriver_waiting, (by show 2 < 1000; decide), ?_⟩
  generalize hG : upd (upd (upd (upd (upd H x (.ins (He.ga K "Deriver") dx (putF "ties" tv []))) a1 (.dK [])) x (.ins (He.ga K "Deriver") dx (putF "steps" (.ref a1) (putF "ties" tv [])))) a2 (.lst [])) x (.ins (He.ga K "Deriver") dx (putF "waiting" (.ref a2) (putF "steps" (.ref a1) (putF "ties" tv [])))) = G
  have gx : G x = some (.ins (He.ga K "Deriver") dx [("ties", tv), ("steps", .ref a1), ("waiting", .ref a2)]) := by rw [← hG, upd_same]; rfl
  have g1 : G a1 = some (.dK []) := by rw [← hG, upd_ne n1x, upd_ne (Ne.symm n21), upd_ne n1x, upd_same]
  have g2 : G a2 = some (.lst []) := by rw [← hG, upd_ne n2x, upd_same]
  have go : ∀ b o, b ≠ x → H b = some o → G b = some o := fun b o hb h => by
    have hb1 : b ≠ a1 := fun z => by rw [z, n1a] at h; cases h
    have hb2 : b ≠ a2 := fun z => by rw [z, n2c] at h; cases h
    rw [← hG, upd_ne hb, upd_ne hb2, upd_ne hb, upd_ne hb1, upd_ne hb]
    exact h
  have sc : Same (cut H (x :: Z)) (cut G (x :: a1 :: a2 :: Z)) := fun b o h => by
    obtain ⟨h1, h2⟩ := cut_some.mp h
    have hb : b ≠ x := fun z => h1 (by simp [z])
    refine cut_some.mpr ⟨fun z => ?_, go b o hb h2⟩
    simp only [List.mem_cons] at z
    rcases z with z | z | z | z
    · exact hb z
    · rw [z, n1a] at h2; cases h2
    · rw [z, n2c] at h2; cases h2
    · exact h1 (List.mem_cons_of_mem _ z)
  have D0 : DAt K Z G x a1 a2 dx tv t ⟨[], []⟩ := ⟨gx, ht.mono sc, ⟨[], g1, .nil⟩, g2, fun a ha => by (obtain ⟨o, ho⟩ := Option.ne_none_iff_exists'.mp (zd a ha); rw [go a o (fun z => xZ (z ▸ ha)) ho]; exact fun z => by cases z), xZ⟩
  have sY : Same (cut G (x :: a1 :: a2 :: Z)) (cut G (a1 :: a2 :: Z)) := cut_more fun b hb => List.mem_cons_of_mem _ hb
  refine go_init T V hin Z x a1 a2 dx tv G _ _ ⟨D0, D0.envS (N := ["self", "ties", "given", "event"]) (n := 1) (ds := [tiesD K t, .tup (nsD l)]) (vs := [tv, lv]) ⟨tv, _, rfl, (ht.mono sc).mono sY, lv, _, rfl, (hl.mono sc).mono sY, rfl⟩ rfl, rfl⟩ (fun ρ' s' σ' H' hs I o => ?_) fun s' H' hs d o => False.elim hs
  refine q a1 a2 H' n1a n2c (by rw [← (show s' = derN t l from hs)]; exact I.d) fun b o2 hb h => ?_
  have hb1 : b ≠ a1 := fun z => by rw [z, n1a] at h; cases h
  have hb2 : b ≠ a2 := fun z => by rw [z, n2c] at h; cases h
  exact o b o2 hb1 hb2 (go b o2 hb h)
theorem ok_Deriver___init__ {P : Program} {w : World} {K : PySem.W.Frag} {mg : Str → Option Value} {base : Heap} (T : Txt w K mg) : CDef P w K mg base (He.ga K "Deriver") "Deriver" ["self", "ties", "given"] 14 (sp_Deriver___init__ K) := by
  obtain ⟨fd, F⟩ := T.in_Deriver
  refine ⟨_, fd, T.mk_Deriver, T.c_Deriver, FunD.bindsN F (fun _ _ _ _ _ _ us hl => match us, hl with | [_, _, _], _ => rfl), FunD.ok F sc_Deriver___init__ (fun vs H Q E h => ?_) (fun cdv A outer s H vs Q E hr h => ⟨t_Deriver___init__ K, PSs.nox ?_, run_Deriver___init__ T vs H Q E h⟩)⟩
  · obtain ⟨Z, x, dx, tv, lv, t, l, rfl, _⟩ := h
    rfl
  · exact (pss_cons (ps_fld (pv 0) (pv 1) rfl) (pss_cons (ps_fld (pv 0) pe_dnewK rfl) (pss_cons (ps_fld (pv 0) (pe_lst pa_nil) rfl) (pss_cons (ps_for PassesOwn.never rfl (pi_seq (pv 2)) (pg_name (i := 3) sc_Deriver___init__.nd rfl (by first | exact Or.inl rfl | exact Or.inr rfl)) (pss_one (ps_expr (pe_methD (pv 0) T.cl_Deriver (ok_Deriver_add T) hr (by decide) (pa_cons (pe_tup (pa_cons (pe_gstr T.c_GIVEN rfl) (pa_cons (pv 3) pa_nil))) pa_nil))))) (pss_one (ps_expr (pe_methD0 (pv 0) T.cl_Deriver (ok_Deriver_settle T) hr (by decide))))))))
end DL
namespace DL
open PySem PySem.Spec L2
theorem sc_Deriver_closure : FnScope ["self"] ["self"] (defScope (inClass s_Deriver 4)) := ⟨rfl, rfl, rfl, by decide +kernel, rfl, by decide +kernel, by decide +kernel⟩
def sp_Deriver_closure (K : PySem.W.Frag) : Sp := fun vs H Q _ => ∃ Z x a1 a2 dx tv t s, vs = [.ref x] ∧ DAt K Z H x a1 a2 dx tv t s ∧ s.st.length < 64 ∧
  ∀ p H', Same H H' → H p = none → H' p = some (.tup ((isort (akeys s.st)).map V.int)) → Q (.ref p) H'
def t_Deriver_closure (w : World) (K : PySem.W.Frag) : TS := (tRet (tCB (rTupOf K) (tCons (tCB (rSortA K w) (tCons (tFld K (tVar 0) "steps") tNil)) tNil)))
theorem run_Deriver_closure {w : World} {K : PySem.W.Frag} {mg : Str → Option Value} (T : Txt w K mg) (vs : List V) (H : Hp) (Q : VK) (E : XK) (hyp : sp_Deriver_closure K vs H Q E) : t_Deriver_closure w K { nx := fun _ H' => Q .non H', rt := Q } (L2.start ["self"] vs) H := by
  obtain ⟨Z, x, a1, a2, dx, tv, t, s, rfl, D, hl, q⟩ := hyp
  obtain ⟨r, r1, r2⟩ := D.st
  have hk : (kvI r).map (·.1) = (akeys s.st).map Sum.inl := by
    have h1 : ∀ {l : List (Int × Stp)} {r : List (Int × V)}, AHas K (cut H (x :: a1 :: a2 :: Z)) Stp.D l r → (kvI r).map (·.1) = (akeys l).map (Sum.inl : Int → Key) := fun h => by
      induction h with
      | nil => rfl
      | cons _ _ ih =>
        unfold kvI akeys at *
        rw [List.map_cons, List.map_cons, List.map_cons, List.map_cons, ih]
    exact h1 r2
  refine ⟨.ref x, rfl, x, _, dx, _, .ref a1, rfl, D.o, T.cl_Deriver, T.na_Deriver_steps, rfl, .inr (.inl ⟨a1, kvI r, akeys s.st, rfl, .inl r1, hk, by unfold akeys; rw [List.length_map]; exact hl, fun zs p z1 z2 hp => ?_⟩)⟩
  refine ⟨p, zs.map V.int, rfl, .inl ⟨.inl (.inl upd_same), fun l hn => ?_⟩⟩
  have hpl : p ≠ l := fun z => by
    subst z
    rw [upd_same] at hn
    cases hn
  have hl0 : H l = none := by rw [upd_ne (Ne.symm hpl)] at hn; exact hn
  refine q l _ ((same_new hp).trans (same_new hn)) hl0 ?_
  rw [upd_same, isort_eq z1 z2]
theorem ok_Deriver_closure {P : Program} {w : World} {K : PySem.W.Frag} {mg : Str → Option Value} {base : Heap} (T : Txt w K mg) : MDef P w K mg base (He.ga K "Deriver") "closure" ["self"] 2 (sp_Deriver_closure K) := by
  obtain ⟨f, fd, M, F⟩ := T.mt_Deriver_closure
  refine ⟨f, fd, M, FunD.bindsN F (fun _ _ _ _ _ _ us hl => match us, hl with | [_], _ => rfl), FunD.ok F sc_Deriver_closure (fun vs H Q E h => ?_) (fun cdv A outer s H vs Q E hr h => ⟨t_Deriver_closure w K, PSs.nox ?_, run_Deriver_closure T vs H Q E h⟩)⟩
  · obtain ⟨Z, x, a1, a2, dx, tv, t, s, rfl, _⟩ := h
    rfl
  · exact (pss_one (ps_ret (pe_callTy call_tuple_of (by rfl) T.b_tuple (by decide +kernel) (pa_cons (pe_callB (cr_sortA rfl) (by rfl) T.b_sorted (by decide +kernel) (pa_cons (pe_fld (pv 0) rfl) pa_nil)) pa_nil))))
end DL
namespace DL
open PySem PySem.Spec L2
/-- the events of a closure, ascending -/
def closN (t : Tr) (l : List Nat) : List Nat := (isort (akeys (derN t l).st)).map Int.toNat
theorem DS.Ok.run {t : Tr} (hf : faultOf t = none) : ∀ (n : Nat) {s : DS}, s.Ok t.length → (DS.run t n s).Ok t.length
  | 0, s, h => h
  | n + 1, ⟨st, []⟩, h => h
  | n + 1, ⟨st, e :: r⟩, h => DS.Ok.run hf n (h.pop.1.follow hf h.pop.2)
theorem derN_ok {t : Tr} (V : ValidT t) {l : List Nat} (hl : ∀ i ∈ l, i < t.length) : (derN t l).Ok t.length := DS.Ok.run V.2.1 _ ((DS.ok_nil _).given hl)
theorem closN_cast {t : Tr} (V : ValidT t) {l : List Nat} (hl : ∀ i ∈ l, i < t.length) : isort (akeys (derN t l).st) = (closN t l).map fun (n : Nat) => (n : Int) := by
  unfold closN
  rw [List.map_map]
  have h : ∀ x ∈ isort (akeys (derN t l).st), ((fun (n : Nat) => (n : Int)) ∘ Int.toNat) x = id x := fun x hx => by
    obtain ⟨i, _, rfl⟩ := (derN_ok V hl).lt x (mem_isort.mp hx)
    rfl
  exact ((List.map_congr_left h).trans (List.map_id _)).symm
/-- Deriver(ties, given).closure() -/
theorem ev_closing {w : World} {K : PySem.W.Frag} {mg : Str → Option Value} (T : Txt w K mg) {t : Tr} {l : List Nat} {ρ : List Sl} {ta : TA} (V : ValidT t) (h64 : t.length < 64) (hl : ∀ i ∈ l, i < t.length) (h : EvA K ta ρ [tiesD K t, .tup (nsD l)]) :
    Ev K (tMeth (He.ga K "Deriver") "closure" (sp_Deriver_closure K) [] E0 (tMake (He.ga K "Deriver") (sp_Deriver___init__ K) [] E0 ta) tNil) ρ (.tup (nsD (closN t l))) := fun O Y H σ I Q q => h O Y H σ I _ fun vs H1 s1 hv => by
  obtain ⟨tv, r1, rfl, h1, lv, r2, rfl, h2, h3⟩ := hv
  cases h3
  intro x dx nx ndx ne
  have I1 := I.mono s1
  have xn : x ∉ O ++ Y := fun z => I1.dom x z nx
  have sc : Same (cut H1 (O ++ Y)) (cut (upd (upd H1 dx (.own x)) x (.ins (He.ga K "Deriver") dx [])) [x]) := fun b o hb => by
    obtain ⟨_, g2⟩ := cut_some.mp hb
    have hbx : b ≠ x := fun z => by rw [z, nx] at g2; cases g2
    have hbd : b ≠ dx := fun z => by rw [z, ndx] at g2; cases g2
    exact cut_some.mpr ⟨by simp [hbx], by rw [upd_ne hbx, upd_ne hbd]; exact g2⟩
  refine ⟨[], x, dx, tv, lv, t, l, rfl, upd_same, ⟨by simp, fun _ z => by cases z⟩, V, h1.mono sc, h2.mono sc, hl, fun a1 a2 H2 m1 m2 D keep => ⟨rfl, x, dx, _, rfl, D.o, rfl, ?_⟩⟩
  have s2 : Same H1 H2 := fun b o g2 => by
    have hbx : b ≠ x := fun z => by rw [z, nx] at g2; cases g2
    have hbd : b ≠ dx := fun z => by rw [z, ndx] at g2; cases g2
    exact keep b o hbx (by rw [upd_ne hbx, upd_ne hbd]; exact g2)
  refine ⟨[], x, a1, a2, dx, tv, t, derN t l, rfl, D, Nat.lt_of_le_of_lt (derN_ok V hl).len h64, fun p H3 s3 np hp => ?_⟩
  refine q _ H3 ((s1.trans s2).trans s3) ⟨p, (isort (akeys (derN t l).st)).map L2.V.int, rfl, ?_, ?_⟩
  · refine cut_some.mpr ⟨fun z => ?_, hp⟩
    exact Same.dom s2 (I1.dom p z) np
  · rw [closN_cast V hl, nsD]
    have := HasL.of_ints (K := K) (H := cut H3 (O ++ Y)) (ns := (closN t l).map fun (i : Nat) => (i : Int))
    rw [List.map_map] at this
    exact this
end DL
namespace DL
open PySem PySem.Spec L2
def withE (l : List Nat) (e : Nat) : List Nat := (isort ((l ++ [e]).map fun (i : Nat) => (i : Int))).map Int.toNat
theorem withE_cast (l : List Nat) (e : Nat) : isort ((l ++ [e]).map fun (i : Nat) => (i : Int)) = (withE l e).map fun (i : Nat) => (i : Int) := by
  unfold withE
  rw [List.map_map]
  have h : ∀ x ∈ isort ((l ++ [e]).map fun (i : Nat) => (i : Int)), ((fun (n : Nat) => (n : Int)) ∘ Int.toNat) x = id x := fun x hx => by
    obtain ⟨i, _, rfl⟩ := List.mem_map.mp (mem_isort.mp hx)
    rfl
  exact ((List.map_congr_left h).trans (List.map_id _)).symm
theorem nsD_cast (l : List Nat) : nsD l = (l.map fun (i : Nat) => (i : Int)).map Dt.int := by
  unfold nsD
  rw [List.map_map]
  rfl
end DL
namespace DL
open PySem PySem.Spec L2
def growN (t : Tr) (l : List Nat) : List Nat := ((List.range t.length).filter fun e => !decide (e ∈ l)).filter fun e => closedB t (withE l e)
theorem withE_mem {l : List Nat} {e i : Nat} : i ∈ withE l e ↔ i ∈ l ∨ i = e := by
  have h : i ∈ withE l e ↔ (i : Int) ∈ (withE l e).map fun (i : Nat) => (i : Int) := by
    rw [List.mem_map]
    refine ⟨fun z => ⟨i, z, rfl⟩, fun ⟨k, a, b⟩ => ?_⟩
    have e2 : k = i := by omega
    rw [← e2]
    exact a
  rw [h, ← withE_cast, mem_isort, List.mem_map]
  constructor
  · rintro ⟨k, a, b⟩
    have e2 : k = i := by omega
    subst e2
    rcases List.mem_append.mp a with z | z
    · exact .inl z
    · exact .inr (List.mem_singleton.mp z)
  · rintro (z | z)
    · exact ⟨i, List.mem_append_left _ z, rfl⟩
    · exact ⟨i, List.mem_append_right _ (by simp [z]), rfl⟩
theorem withE_len (l : List Nat) (e : Nat) : (withE l e).length = l.length + 1 := by
  unfold withE
  rw [List.length_map, isort_len, List.length_map, List.length_append]
  rfl
end DL
namespace DL
open PySem PySem.Spec L2
theorem sc_is_index : FnScope ["count", "value"] ["count", "value"] (defScope s_is_index) := ⟨rfl, rfl, rfl, by decide +kernel, rfl, by decide +kernel, by decide +kernel⟩
def indexD (n : Int) : Dt → Bool
  | .int i => decide (0 ≤ i) && decide (i < n)
  | _ => false
abbrev sp_is_index (K : PySem.W.Frag) : Sp := spD K (fun x : Int × Dt => [.int x.1, x.2]) (fun x => plainD x.2 = true) (fun x => .bl (indexD x.1 x.2))
def t_is_index (K : PySem.W.Frag) : TS := (tRet (tAndV (tCall (sp_is_from K) [] E0 (tCons (tC (.int 0)) (tCons (tVar 1) tNil))) (tOp (rI0 fun i j => .bl (decide (i < j))) (tVar 1) (tVar 0))))
theorem run_is_index {K : PySem.W.Frag} (x : Int × Dt) (h : plainD x.2 = true) : Runs K (t_is_index K) [.dat (.int x.1), .dat x.2] { nx := fun _ => Dt.bl (indexD x.1 x.2) = .non, rt := fun e _ => e = .bl (indexD x.1 x.2) } := by
  obtain ⟨n, d⟩ := x
  cases hd : fromD 0 d with
  | false =>
    refine r_ret (Ev.is (ev_andV (b := true) (ev_call (0, d) (ea_cons ev_int (ea_cons (ev_var rfl) ea_nil)) h) fun e => absurd (hd.symm.trans e) (by decide)) ?_) rfl
    cases d <;> first | rfl | skip
    show Dt.bl (fromD 0 _ && true) = .bl (decide _ && decide _)
    rw [hd, show decide _ = false from hd]
    rfl
  | true =>
    cases d <;> first | (cases hd; done) | skip
    exact r_ret (ev_andV (ev_call (0, _) (ea_cons ev_int (ea_cons (ev_var rfl) ea_nil)) h) fun _ => ev_op (ev_var rfl) (ev_var rfl) rv_B0) rfl
theorem ok_is_index {P : Program} {w : World} {K : PySem.W.Frag} {mg : Str → Option Value} {base : Heap} (T : Txt w K mg) : Def P w K mg base "is_index" ["count", "value"] 3 (sp_is_index K) := by
  obtain ⟨f, fd, F, gl⟩ := T.fn_is_index
  exact ⟨f, fd, gl, F.kp, FunD.bindsN F (fun _ _ _ _ _ _ us hl => match us, hl with | [_, _], _ => rfl), fn_f F sc_is_index (fun _ => rfl) (t_is_index K) (fun cdv A outer s H E hr => (pss_one (ps_ret (pe_and (pe_callD (ok_is_from T) hr (by decide) (by rfl) (pa_cons pe_int (pa_cons (pv 1) pa_nil))) (pe_one (pe_cmpR op_lt (pv 1) (pv 0) (nomark _))))))) (by decide) (fun x hx => run_is_index x hx)⟩
end DL
namespace DL
open PySem PySem.Spec L2
/-- ascending, below a number -/
def ascB (n : Nat) (l : List Nat) : Bool := (l.all fun i => decide (i < n)) && (l.zip (l.drop 1)).all fun p => decide (p.1 < p.2)
def intD : Dt → Int
  | .int i => i
  | _ => 0
/-- the same of any value -/
def idxsD (n : Int) : Dt → Bool
  | .tup ds => ds.all (indexD n) && (ds.zip (ds.drop 1)).all fun p => decide (intD p.1 < intD p.2)
  | _ => false
def natsOf : Dt → List Nat
  | .tup ds => ds.map fun d => (intD d).toNat
  | _ => []
theorem nsD_drop (l : List Nat) (k : Nat) : (nsD l).drop k = nsD (l.drop k) := (List.map_drop).symm
theorem all_map {α : Type} (f : α → Bool) (l : List α) : (l.map f).all id = l.all f := by
  rw [List.all_map]
  rfl
theorem indexD_nat (n i : Nat) : indexD (n : Int) (natD i) = decide (i < n) := by
  show (decide ((0 : Int) ≤ (i : Int)) && decide ((i : Int) < (n : Int))) = decide (i < n)
  rw [decide_eq_true (by omega), Bool.true_and]
  exact decide_eq_decide.mpr ⟨fun z => by omega, fun z => by omega⟩
theorem idxsD_ns (n : Nat) (l : List Nat) : idxsD (n : Int) (.tup (nsD l)) = ascB n l := by
  show ((nsD l).all (indexD n) && ((nsD l).zip ((nsD l).drop 1)).all fun p => decide (intD p.1 < intD p.2)) = ascB n l
  unfold ascB
  rw [nsD_drop, nsD, List.all_map, nsD, List.zip_map, List.all_map]
  congr 1
  · exact congrArg (l.all ·) (funext fun i => indexD_nat n i)
  · refine congrArg ((l.zip (l.drop 1)).all ·) (funext fun p => ?_)
    exact decide_eq_decide.mpr ⟨fun z => by have z : (p.1 : Int) < (p.2 : Int) := z; omega, fun z => by show (p.1 : Int) < (p.2 : Int); omega⟩
theorem indexD_is {n : Nat} {d : Dt} (h : indexD (n : Int) d = true) : d = natD (intD d).toNat := by
  cases d with
  | int i =>
    have h : (decide (0 ≤ i) && decide (i < (n : Int))) = true := h
    rw [Bool.and_eq_true, decide_eq_true_iff] at h
    show Dt.int i = Dt.int ((i.toNat : Nat) : Int)
    rw [show ((i.toNat : Nat) : Int) = i by omega]
  | _ => cases h
theorem idxs_nat {n : Nat} {d : Dt} (h : idxsD (n : Int) d = true) : d = .tup (nsD (natsOf d)) ∧ ascB n (natsOf d) = true := by
  cases d with
  | tup ds =>
    have h2 : (ds.all (indexD n) && (ds.zip (ds.drop 1)).all fun p => decide (intD p.1 < intD p.2)) = true := h
    rw [Bool.and_eq_true] at h2
    have e : ds = nsD (natsOf (.tup ds)) := by
      show ds = (ds.map fun d => (intD d).toNat).map natD
      rw [List.map_map]
      exact ((List.map_congr_left fun d hd => ((indexD_is (List.all_eq_true.mp h2.1 d hd)).symm : natD (intD d).toNat = id d)).trans (List.map_id _)).symm
    refine ⟨congrArg Dt.tup e, ?_⟩
    rw [← idxsD_ns, ← e]
    exact h
  | _ => cases h
theorem et_orT {K : PySem.W.Frag} {ρ : List Sl} {t u : TT} (h : EvT K t ρ true) : EvT K (tOr t u) ρ true := et_or (b := true) h fun z => by cases z
end DL
namespace DL
open PySem PySem.Spec L2
theorem asc_lt {n : Nat} {l : List Nat} (h : ascB n l = true) : ∀ i ∈ l, i < n := fun i hi => by
  unfold ascB at h
  rw [Bool.and_eq_true] at h
  exact of_decide_eq_true (List.all_eq_true.mp h.1 i hi)
theorem asc_pw : ∀ {l : List Nat} {n : Nat}, ascB n l = true ↔ (∀ i ∈ l, i < n) ∧ l.Pairwise (· < ·)
  | [], n => by simp [ascB]
  | [a], n => by simp [ascB]
  | a :: b :: l, n => by
    have ih := asc_pw (l := b :: l) (n := n)
    have e : ascB n (a :: b :: l) = (decide (a < n) && decide (a < b) && ascB n (b :: l)) := by
      unfold ascB
      simp only [List.all_cons, List.drop_succ_cons, List.drop_zero, List.zip_cons_cons]
      cases decide (a < n) <;> cases decide (a < b) <;> cases decide (b < n) <;> cases (l.all fun i => decide (i < n)) <;> rfl
    rw [e, Bool.and_eq_true, Bool.and_eq_true, ih, decide_eq_true_iff, decide_eq_true_iff]
    constructor
    · rintro ⟨⟨h1, h2⟩, h3, h4⟩
      refine ⟨fun i hi => ?_, List.pairwise_cons.mpr ⟨fun i hi => ?_, h4⟩⟩
      · rcases List.mem_cons.mp hi with z | z
        · rw [z]; exact h1
        · exact h3 i z
      · rcases List.mem_cons.mp hi with z | z
        · rw [z]; exact h2
        · exact Nat.lt_trans h2 ((List.pairwise_cons.mp h4).1 i z)
    · rintro ⟨h1, h2⟩
      obtain ⟨h3, h4⟩ := List.pairwise_cons.mp h2
      exact ⟨⟨h1 a List.mem_cons_self, h3 b List.mem_cons_self⟩, fun i hi => h1 i (List.mem_cons_of_mem _ hi), h4⟩
theorem asc_len {n : Nat} {l : List Nat} (h : ascB n l = true) : l.length ≤ n := by
  obtain ⟨h1, h2⟩ := asc_pw.mp h
  have := List.Nodup.length_le_of_subset (l₁ := l) (l₂ := List.range n) (h2.imp fun z => Nat.ne_of_lt z) fun i hi => List.mem_range.mpr (h1 i hi)
  rw [List.length_range] at this
  exact this
end DL
namespace DL
open PySem PySem.Spec L2
/-! closures, plainly -/
inductive Cl (t : Tr) (l : List Nat) : Nat → Prop
  | giv {e : Nat} (h : e ∈ l) : Cl t l e
  | nee {e o : Nat} (h : Cl t l e) (ho : o ∈ needsN t e) : Cl t l o
  | fin {a b k : Nat} (ha : Cl t l a) (hb : Cl t l b) (h : blk t a b = true) (hk : endO t (min a b) = some k) : Cl t l k
noncomputable def clos (t : Tr) (l : List Nat) : List Nat := (List.range t.length).filter fun i => @decide (Cl t l i) (Classical.propDecidable _)
/-- a set with all that its events need, and the ends that two want -/
structure Clo (t : Tr) (S : Nat → Prop) : Prop where
  nee : ∀ e, S e → ∀ o ∈ needsN t e, S o
  fin : ∀ a b k, S a → S b → blk t a b = true → endO t (min a b) = some k → S k
theorem Cl.clo (t : Tr) (l : List Nat) : Clo t (Cl t l) := ⟨fun _ h _ ho => .nee h ho, fun _ _ _ ha hb h hk => .fin ha hb h hk⟩
theorem Cl.least {t : Tr} {l : List Nat} {S : Nat → Prop} (c : Clo t S) (h : ∀ e ∈ l, S e) {i : Nat} (hi : Cl t l i) : S i := by
  induction hi with
  | giv h1 => exact h _ h1
  | nee _ ho ih => exact c.nee _ ih _ ho
  | fin _ _ hb hk ih1 ih2 => exact c.fin _ _ _ ih1 ih2 hb hk
theorem Cl.lt {t : Tr} (hf : faultOf t = none) {l : List Nat} (hl : ∀ i ∈ l, i < t.length) {i : Nat} (h : Cl t l i) : i < t.length := by
  induction h with
  | giv h1 => exact hl _ h1
  | nee _ ho ih => exact Nat.lt_trans (needs_lt hf ih ho) ih
  | fin _ _ hb hk ih1 ih2 =>
    obtain ⟨q, e1, e2⟩ := end_of hf ih1 ih2 hb
    rw [e1] at hk
    cases hk
    omega
theorem mem_clos {t : Tr} (hf : faultOf t = none) {l : List Nat} (hl : ∀ i ∈ l, i < t.length) {i : Nat} : i ∈ clos t l ↔ Cl t l i := by
  unfold clos
  rw [List.mem_filter, List.mem_range]
  exact ⟨fun h => @of_decide_eq_true _ (Classical.propDecidable _) h.2, fun h => ⟨h.lt hf hl, @decide_eq_true _ (Classical.propDecidable _) h⟩⟩
theorem clos_pw (t : Tr) (l : List Nat) : (clos t l).Pairwise (· < ·) := List.Pairwise.filter _ List.pairwise_lt_range
theorem clos_lt {t : Tr} {l : List Nat} : ∀ i ∈ clos t l, i < t.length := fun i hi => List.mem_range.mp (List.mem_filter.mp hi).1
theorem clos_asc (t : Tr) (l : List Nat) : ascB t.length (clos t l) = true := asc_pw.mpr ⟨clos_lt, clos_pw t l⟩
/-- two ascending lists of the same -/
theorem asc_eq {l m : List Nat} (h1 : l.Pairwise (· < ·)) (h2 : m.Pairwise (· < ·)) (h : ∀ i, i ∈ l ↔ i ∈ m) : l = m := by
  have p : l.Perm m := (List.perm_ext_iff_of_nodup (h1.imp fun z => Nat.ne_of_lt z) (h2.imp fun z => Nat.ne_of_lt z)).mpr h
  exact p.eq_of_pairwise (fun a b _ _ x y => absurd x (by omega)) h1 h2
theorem clos_eq {t : Tr} (hf : faultOf t = none) {l m : List Nat} (hl : ∀ i ∈ l, i < t.length) (hm : m.Pairwise (· < ·)) (h : ∀ i, i ∈ m ↔ Cl t l i) : clos t l = m :=
  asc_eq (clos_pw t l) hm fun i => (mem_clos hf hl).trans (h i).symm
theorem clos_congr {t : Tr} (hf : faultOf t = none) {l m : List Nat} (hl : ∀ i ∈ l, i < t.length) (h : ∀ i, i ∈ l ↔ i ∈ m) : clos t l = clos t m := by
  have hm : ∀ i ∈ m, i < t.length := fun i hi => hl i ((h i).mpr hi)
  refine clos_eq hf hl (clos_pw t m) fun i => (mem_clos hf hm).trans ⟨fun z => Cl.least (Cl.clo t l) (fun e he => .giv ((h e).mpr he)) z, fun z => Cl.least (Cl.clo t m) (fun e he => .giv ((h e).mp he)) z⟩
/-! ### closed, as the program tells it -/
theorem inN_iff {l : List Nat} {k : Nat} : inN l (k : Int) = true ↔ k ∈ l := by
  unfold inN
  rw [decide_eq_true_iff, List.mem_map]
  refine ⟨fun ⟨i, a, b⟩ => ?_, fun h => ⟨k, h, rfl⟩⟩
  have e : i = k := by omega
  rw [← e]
  exact a
theorem closedB_iff {t : Tr} (hf : faultOf t = none) {l : List Nat} (hl : ∀ i ∈ l, i < t.length) : closedB t l = true ↔ Clo t (· ∈ l) := by
  unfold closedB
  rw [Bool.and_eq_true, List.all_eq_true, List.all_eq_true]
  constructor
  · rintro ⟨h1, h2⟩
    refine ⟨fun e he o ho => ?_, fun a b k ha hb h hk => ?_⟩
    · have := List.all_eq_true.mp (h1 e he) (o : Int) (by rw [needs_cast]; exact List.mem_map.mpr ⟨o, ho, rfl⟩)
      exact inN_iff.mp this
    · obtain ⟨g1, g2⟩ := blk_takes h
      have := List.all_eq_true.mp (h2 a (List.mem_filter.mpr ⟨ha, g1⟩)) b (List.mem_filter.mpr ⟨hb, g2⟩)
      unfold wantIn wantO at this
      rw [if_pos h, hk] at this
      exact inN_iff.mp this
  · rintro ⟨h1, h2⟩
    refine ⟨fun e he => List.all_eq_true.mpr fun x hx => ?_, fun i hi => List.all_eq_true.mpr fun j hj => ?_⟩
    · rw [needs_cast] at hx
      obtain ⟨o, ho, rfl⟩ := List.mem_map.mp hx
      exact inN_iff.mpr (h1 e he o ho)
    · unfold wantIn wantO
      by_cases hb : blk t i j = true
      · rw [if_pos hb]
        have hi := (List.mem_filter.mp hi).1
        have hj := (List.mem_filter.mp hj).1
        obtain ⟨k, hk, _⟩ := end_of hf (hl i hi) (hl j hj) hb
        rw [hk]
        exact inN_iff.mpr (h2 i j k hi hj hb hk)
      · rw [if_neg hb]
theorem clos_closed {t : Tr} (hf : faultOf t = none) {l : List Nat} (hl : ∀ i ∈ l, i < t.length) : closedB t (clos t l) = true := by
  refine (closedB_iff hf clos_lt).mpr ⟨fun e he o ho => ?_, fun a b k ha hb h hk => ?_⟩
  · exact (mem_clos hf hl).mpr (.nee ((mem_clos hf hl).mp he) ho)
  · exact (mem_clos hf hl).mpr (.fin ((mem_clos hf hl).mp ha) ((mem_clos hf hl).mp hb) h hk)
theorem clos_of_closed {t : Tr} (hf : faultOf t = none) {l : List Nat} (ha : ascB t.length l = true) (h : closedB t l = true) : clos t l = l := by
  have hl := asc_lt ha
  exact clos_eq hf hl (asc_pw.mp ha).2 fun i => ⟨fun z => .giv z, fun z => Cl.least ((closedB_iff hf hl).mp h) (fun e he => he) z⟩
theorem closed_iff {t : Tr} (hf : faultOf t = none) {l : List Nat} (ha : ascB t.length l = true) : closedB t l = true ↔ clos t l = l :=
  ⟨clos_of_closed hf ha, fun h => by rw [← h]; exact clos_closed hf (asc_lt ha)⟩
/-! ### the deriver's closure is the closure -/
theorem need_keys {e : Nat} {x : Int} : ∀ {os : List Nat} {s : DS}, x ∈ akeys (s.need e os).st ↔ x ∈ akeys s.st ∨ ∃ o ∈ os, x = (o : Int)
  | [], s => ⟨.inl, fun h => h.elim id fun ⟨o, ho, _⟩ => by cases ho⟩
  | o :: os, s => by
    have ih := need_keys (e := e) (x := x) (os := os) (s := s.add (.nee o e))
    have e1 : s.need e (o :: os) = (s.add (.nee o e)).need e os := rfl
    rw [e1, ih, DS.add_keys]
    show (x ∈ if (o : Int) ∈ akeys s.st then akeys s.st else akeys s.st ++ [(o : Int)]) ∨ _ ↔ _
    constructor
    · rintro (h | ⟨p, hp, h⟩)
      · split at h
        · exact .inl h
        · rcases List.mem_append.mp h with z | z
          · exact .inl z
          · exact .inr ⟨o, List.mem_cons_self, List.mem_singleton.mp z⟩
      · exact .inr ⟨p, List.mem_cons_of_mem _ hp, h⟩
    · rintro (h | ⟨p, hp, h⟩)
      · left
        split
        · exact h
        · exact List.mem_append_left _ h
      · rcases List.mem_cons.mp hp with z | z
        · left
          subst z
          rw [h]
          split
          · rename_i hm; exact hm
          · exact List.mem_append_right _ (by simp)
        · exact .inr ⟨p, z, h⟩
theorem ending_keys {t : Tr} {e : Nat} {x : Int} : ∀ {ks : List Int} {s : DS}, x ∈ akeys (s.ending t e ks).st ↔ x ∈ akeys s.st ∨ ∃ k ∈ ks, ((Tr.at t k.toNat).nm.takes && blk t e k.toNat) = true ∧ x = (((endO t (min e k.toNat)).getD 0 : Nat) : Int)
  | [], s => ⟨.inl, fun h => h.elim id fun ⟨o, ho, _⟩ => by cases ho⟩
  | k :: ks, s => by
    have ih := ending_keys (t := t) (e := e) (x := x) (ks := ks) (s := if ((Tr.at t k.toNat).nm.takes && blk t e k.toNat) = true then s.add (endS t e k.toNat) else s)
    have e1 : s.ending t e (k :: ks) = (if ((Tr.at t k.toNat).nm.takes && blk t e k.toNat) = true then s.add (endS t e k.toNat) else s).ending t e ks := rfl
    rw [e1, ih]
    have e2 : x ∈ akeys (if ((Tr.at t k.toNat).nm.takes && blk t e k.toNat) = true then s.add (endS t e k.toNat) else s).st ↔ x ∈ akeys s.st ∨ (((Tr.at t k.toNat).nm.takes && blk t e k.toNat) = true ∧ x = (((endO t (min e k.toNat)).getD 0 : Nat) : Int)) := by
      split
      · rename_i hb
        rw [DS.add_keys]
        show (x ∈ if (((endO t (min e k.toNat)).getD 0 : Nat) : Int) ∈ akeys s.st then akeys s.st else akeys s.st ++ [(((endO t (min e k.toNat)).getD 0 : Nat) : Int)]) ↔ _
        split
        · rename_i hm
          exact ⟨.inl, fun h => h.elim id fun ⟨_, z⟩ => by rw [z]; exact hm⟩
        · rw [List.mem_append, List.mem_singleton]
          exact ⟨fun h => h.imp id fun z => ⟨hb, z⟩, fun h => h.imp id fun z => z.2⟩
      · rename_i hb
        exact ⟨.inl, fun h => h.elim id fun ⟨z, _⟩ => absurd z hb⟩
    rw [e2]
    constructor
    · rintro ((h | ⟨h1, h2⟩) | ⟨p, hp, h⟩)
      · exact .inl h
      · exact .inr ⟨k, List.mem_cons_self, h1, h2⟩
      · exact .inr ⟨p, List.mem_cons_of_mem _ hp, h⟩
    · rintro (h | ⟨p, hp, h⟩)
      · exact .inl (.inl h)
      · rcases List.mem_cons.mp hp with z | z
        · subst z; exact .inl (.inr h)
        · exact .inr ⟨p, z, h⟩
/-- an event of a deriver -/
def DS.has (s : DS) (i : Nat) : Prop := (i : Int) ∈ akeys s.st
theorem follow_has {t : Tr} (hf : faultOf t = none) {e : Nat} (he : e < t.length) {s : DS} (ok : s.Ok t.length) {i : Nat} : (s.follow t e).has i ↔ s.has i ∨ i ∈ needsN t e ∨ ∃ f k, (s.has f ∨ f ∈ needsN t e) ∧ blk t e f = true ∧ endO t (min e f) = some k ∧ i = k := by
  have ok1 : (s.need e (needsN t e)).Ok t.length := ok.need fun o ho => Nat.lt_trans (needs_lt hf he ho) he
  have nk : ∀ j : Nat, (s.need e (needsN t e)).has j ↔ s.has j ∨ j ∈ needsN t e := fun j => by
    unfold DS.has
    rw [need_keys]
    refine ⟨fun h => h.imp id fun ⟨o, a, b⟩ => ?_, fun h => h.imp id fun z => ⟨j, z, rfl⟩⟩
    have e1 : j = o := by omega
    rw [e1]
    exact a
  unfold DS.follow
  by_cases ht : (Tr.at t e).nm.takes = true
  · rw [if_pos ht]
    unfold DS.has
    rw [ending_keys]
    constructor
    · rintro (h | ⟨k, hk, hb, hx⟩)
      · exact ((nk i).mp h).elim .inl fun z => .inr (.inl z)
      · obtain ⟨f, hfl, rfl⟩ := ok1.lt k hk
        rw [Bool.and_eq_true] at hb
        have hb2 : blk t e f = true := hb.2
        obtain ⟨q, hq, _⟩ := end_of hf he hfl hb2
        refine .inr (.inr ⟨f, q, (nk f).mp hk, hb2, hq, ?_⟩)
        have hx : (i : Int) = (((endO t (min e f)).getD 0 : Nat) : Int) := hx
        rw [hq] at hx
        have hx : (i : Int) = (q : Int) := hx
        omega
    · rintro (h | h | ⟨f, k, hk, hb, hq, rfl⟩)
      · exact .inl ((nk i).mpr (.inl h))
      · exact .inl ((nk i).mpr (.inr h))
      · refine .inr ⟨(f : Int), (nk f).mpr hk, ?_, ?_⟩
        · show ((Tr.at t f).nm.takes && blk t e f) = true
          rw [(blk_takes hb).2, hb]
          rfl
        · show _ = (((endO t (min e f)).getD 0 : Nat) : Int)
          rw [hq]
          rfl
  · rw [if_neg ht]
    refine (nk i).trans ⟨fun h => h.elim .inl fun z => .inr (.inl z), ?_⟩
    rintro (h | h | ⟨f, k, _, hb, _⟩)
    · exact .inl h
    · exact .inr h
    · exact absurd (blk_takes hb).1 ht
/-- what holds of a deriver between two events -/
structure Mid (t : Tr) (l : List Nat) (s : DS) : Prop where
  ok : s.Ok t.length
  cl : ∀ i, s.has i → Cl t l i
  gv : ∀ e ∈ l, s.has e
  nee : ∀ e, s.has e → e ∉ s.wt → ∀ o ∈ needsN t e, s.has o
  fin : ∀ a b k, s.has a → s.has b → a ∉ s.wt → b ∉ s.wt → blk t a b = true → endO t (min a b) = some k → s.has k
theorem add_wt {s : DS} {x : Stp} {i : Nat} (h : i ∈ s.wt) : i ∈ (s.add x).wt := by
  unfold DS.add
  split
  · exact h
  · exact List.mem_append_left _ h
theorem add_new {s : DS} {x : Stp} {i : Nat} (h : (s.add x).has i) : s.has i ∨ i ∈ (s.add x).wt := by
  by_cases hm : (x.ev : Int) ∈ akeys s.st
  · unfold DS.has at h
    rw [DS.add_keys, if_pos hm] at h
    exact .inl h
  · have hk := h
    unfold DS.has at hk
    rw [DS.add_keys, if_neg hm] at hk
    rcases List.mem_append.mp hk with z | z
    · exact .inl z
    · right
      have e1 : i = x.ev := by have := List.mem_singleton.mp z; omega
      unfold DS.add
      rw [if_neg (fun z => hm ((alook_key _ _).mp z)), e1]
      exact List.mem_append_right _ (by simp)
theorem need_wt {e i : Nat} : ∀ {os : List Nat} {s : DS}, (i ∈ s.wt → i ∈ (s.need e os).wt) ∧ ((s.need e os).has i → s.has i ∨ i ∈ (s.need e os).wt)
  | [], s => ⟨id, .inl⟩
  | o :: os, s => by
    obtain ⟨a, b⟩ := need_wt (e := e) (i := i) (os := os) (s := s.add (.nee o e))
    exact ⟨fun h => a (add_wt h), fun h => (b h).elim (fun z => (add_new z).imp id a) .inr⟩
theorem ending_wt {t : Tr} {e i : Nat} : ∀ {ks : List Int} {s : DS}, (i ∈ s.wt → i ∈ (s.ending t e ks).wt) ∧ ((s.ending t e ks).has i → s.has i ∨ i ∈ (s.ending t e ks).wt)
  | [], s => ⟨id, .inl⟩
  | k :: ks, s => by
    obtain ⟨a, b⟩ := ending_wt (t := t) (e := e) (i := i) (ks := ks) (s := if ((Tr.at t k.toNat).nm.takes && blk t e k.toNat) = true then s.add (endS t e k.toNat) else s)
    have e1 : s.ending t e (k :: ks) = (if ((Tr.at t k.toNat).nm.takes && blk t e k.toNat) = true then s.add (endS t e k.toNat) else s).ending t e ks := rfl
    rw [e1]
    split at a <;> rename_i hb
    · rw [if_pos hb] at b ⊢
      exact ⟨fun h => a (add_wt h), fun h => (b h).elim (fun z => (add_new z).imp id a) .inr⟩
    · rw [if_neg hb] at b ⊢
      exact ⟨a, b⟩
theorem follow_wt {t : Tr} {e i : Nat} {s : DS} : (i ∈ s.wt → i ∈ (s.follow t e).wt) ∧ ((s.follow t e).has i → s.has i ∨ i ∈ (s.follow t e).wt) := by
  obtain ⟨a, b⟩ := need_wt (e := e) (i := i) (os := needsN t e) (s := s)
  unfold DS.follow
  split
  · obtain ⟨c, d⟩ := ending_wt (t := t) (e := e) (i := i) (ks := akeys (s.need e (needsN t e)).st) (s := s.need e (needsN t e))
    exact ⟨fun h => c (a h), fun h => (d h).elim (fun z => (b z).imp id c) .inr⟩
  · exact ⟨a, b⟩
theorem Mid.step {t : Tr} (hf : faultOf t = none) {l : List Nat} {e : Nat} {st : List (Int × Stp)} {r : List Nat} (M : Mid t l ⟨st, e :: r⟩) : Mid t l (DS.follow t e ⟨st, r⟩) := by
  obtain ⟨ok, he⟩ := M.ok.pop
  have hs : ∀ i, (DS.has ⟨st, e :: r⟩ i) ↔ DS.has ⟨st, r⟩ i := fun i => Iff.rfl
  have ee : DS.has ⟨st, r⟩ e := M.ok.wk e List.mem_cons_self
  have fh := fun i => follow_has hf he ok (i := i)
  have up : ∀ i, DS.has ⟨st, r⟩ i → (DS.follow t e ⟨st, r⟩).has i := fun i h => (fh i).mpr (.inl h)
  -- what is done: e, or done before
  have dn : ∀ i, (DS.follow t e ⟨st, r⟩).has i → i ∉ (DS.follow t e ⟨st, r⟩).wt → DS.has ⟨st, r⟩ i ∧ (i = e ∨ i ∉ e :: r) := fun i h hn => by
    have h1 := (follow_wt (t := t) (e := e) (s := ⟨st, r⟩) (i := i)).2 h
    have h2 := (follow_wt (t := t) (e := e) (s := ⟨st, r⟩) (i := i)).1
    have h3 : DS.has ⟨st, r⟩ i := h1.elim id fun z => absurd z hn
    refine ⟨h3, ?_⟩
    by_cases hie : i = e
    · exact .inl hie
    · exact .inr fun z => (List.mem_cons.mp z).elim hie fun z => hn (h2 z)
  refine ⟨ok.follow hf he, fun i h => ?_, fun i h => up i (M.gv i h), fun i h hn o ho => ?_, fun a b k ha hb na nb h hk => ?_⟩
  · rcases (fh i).mp h with z | z | ⟨f, k, hf1, hb, hq, rfl⟩
    · exact M.cl i z
    · exact .nee (M.cl e ee) z
    · refine .fin (M.cl e ee) ?_ hb hq
      rcases hf1 with z | z
      · exact M.cl f z
      · exact .nee (M.cl e ee) z
  · obtain ⟨h1, h2⟩ := dn i h hn
    rcases h2 with z | z
    · subst z
      exact (fh o).mpr (.inr (.inl ho))
    · exact up o (M.nee i h1 z o ho)
  · obtain ⟨a1, a2⟩ := dn a ha na
    obtain ⟨b1, b2⟩ := dn b hb nb
    rcases a2 with z | z
    · subst z
      exact (fh k).mpr (.inr (.inr ⟨b, k, .inl b1, h, hk, rfl⟩))
    · rcases b2 with y | y
      · subst y
        rw [blk_comm] at h
        rw [Nat.min_comm] at hk
        exact (fh k).mpr (.inr (.inr ⟨a, k, .inl a1, h, hk, rfl⟩))
      · exact up k (M.fin a b k a1 b1 z y h hk)
theorem Mid.run {t : Tr} (hf : faultOf t = none) {l : List Nat} : ∀ (n : Nat) {s : DS}, Mid t l s → s.rank t.length ≤ n → Mid t l (DS.run t n s) ∧ (DS.run t n s).wt = []
  | 0, ⟨st, []⟩, M, h => ⟨M, rfl⟩
  | 0, ⟨st, e :: r⟩, M, h => by
    exfalso
    unfold DS.rank at h
    simp at h
  | n + 1, ⟨st, []⟩, M, _ => ⟨M, rfl⟩
  | n + 1, ⟨st, e :: r⟩, M, h => by
    have := DS.rank_follow hf M.ok
    exact Mid.run hf n (M.step hf) (by omega)
theorem given_has : ∀ {l : List Nat} {s : DS} {i : Nat}, (DS.has (l.foldl (fun s e => s.add (.giv e)) s) i ↔ s.has i ∨ i ∈ l) ∧ ((∀ j, s.has j → j ∈ s.wt) → ∀ j, DS.has (l.foldl (fun s e => s.add (.giv e)) s) j → j ∈ (l.foldl (fun s e => s.add (.giv e)) s).wt)
  | [], s, i => ⟨⟨.inl, fun h => h.elim id fun z => by cases z⟩, fun h => h⟩
  | e :: l, s, i => by
    obtain ⟨a, b⟩ := given_has (l := l) (s := s.add (.giv e)) (i := i)
    refine ⟨a.trans ?_, fun h => b fun j hj => ?_⟩
    · unfold DS.has
      rw [DS.add_keys]
      show ((i : Int) ∈ (if (e : Int) ∈ akeys s.st then akeys s.st else akeys s.st ++ [(e : Int)])) ∨ _ ↔ _
      have ei : (i : Int) = (e : Int) ↔ i = e := by omega
      split
      · rename_i hm
        constructor
        · rintro (h | h)
          · exact .inl h
          · exact .inr (List.mem_cons_of_mem _ h)
        · rintro (h | h)
          · exact .inl h
          · rcases List.mem_cons.mp h with z | z
            · subst z; exact .inl hm
            · exact .inr z
      · rw [List.mem_append, List.mem_singleton, ei, List.mem_cons, or_assoc]
    · rcases add_new hj with z | z
      · exact add_wt (h j z)
      · exact z
theorem closN_eq {t : Tr} (V : ValidT t) {l : List Nat} (hl : ∀ i ∈ l, i < t.length) : closN t l = clos t l := by
  have hf := V.2.1
  have M0 : Mid t l (DS.given l) := by
    have gh := fun i => (given_has (l := l) (s := ⟨[], []⟩) (i := i)).1
    have gw := (given_has (l := l) (s := ⟨[], []⟩) (i := 0)).2 fun j hj => by
      unfold DS.has akeys at hj
      simp at hj
    have n0 : ∀ i, ¬ DS.has ⟨[], []⟩ i := fun i h => by
      unfold DS.has akeys at h
      simp at h
    exact ⟨(DS.ok_nil _).given hl, fun i h => .giv (((gh i).mp h).elim (fun z => absurd z (n0 i)) id), fun e he => (gh e).mpr (.inr he), fun e he hn => absurd (gw e he) hn, fun a b k ha _ na => absurd (gw a ha) na⟩
  obtain ⟨M, hw⟩ := Mid.run hf _ M0 (Nat.le_refl _)
  have mm : ∀ i, i ∈ closN t l ↔ (derN t l).has i := fun i => by
    have h : i ∈ closN t l ↔ (i : Int) ∈ (closN t l).map fun (n : Nat) => (n : Int) := by
      rw [List.mem_map]
      refine ⟨fun z => ⟨i, z, rfl⟩, fun ⟨k, a, b⟩ => ?_⟩
      have e : k = i := by omega
      rw [← e]
      exact a
    rw [h, ← closN_cast V hl, mem_isort]
    rfl
  have hasC : ∀ i, (derN t l).has i ↔ Cl t l i := fun i => by
    refine ⟨M.cl i, fun h => Cl.least (S := fun j => (derN t l).has j) ⟨fun e he o ho => M.nee e he (by rw [hw]; exact fun z => by cases z) o ho, fun a b k ha hb h hk => M.fin a b k ha hb (by rw [hw]; exact fun z => by cases z) (by rw [hw]; exact fun z => by cases z) h hk⟩ M.gv h⟩
  refine (clos_eq hf hl ?_ fun i => (mm i).trans (hasC i)).symm
  -- ascending
  have h1 : (closN t l).map (fun (n : Nat) => (n : Int)) = isort (akeys (derN t l).st) := (closN_cast V hl).symm
  have h2 : ((closN t l).map fun (n : Nat) => (n : Int)).Pairwise (· ≤ ·) := by rw [h1]; exact isort_pw _
  have h3 : ((closN t l).map fun (n : Nat) => (n : Int)).Nodup := by
    rw [h1]
    exact (List.mergeSort_perm _ _).nodup_iff.mpr (derN_ok V hl).nd
  have h4 := List.pairwise_map.mp h2
  have h5 := List.pairwise_map.mp h3
  exact (h4.and h5).imp fun {a b} z => by
    obtain ⟨z1, z2⟩ := z
    have : (a : Int) ≠ (b : Int) := z2
    omega
end DL
namespace DL
open PySem PySem.Spec L2
theorem sc_Deriver_derivation : FnScope ["self", "event", "wanted", "one", "premise", "step"] ["self", "event"] (defScope (inClass s_Deriver 5)) := ⟨rfl, rfl, rfl, by decide +kernel, rfl, by decide +kernel, by decide +kernel⟩
/-- a deriver that is not changed any more, as data -/
def derD (K : PySem.W.Frag) (t : Tr) (s : DS) : Dt := .ins (He.ga K "Deriver") ["ties", "steps", "waiting"] [tiesD K t, dkI Stp.D s.st, .lst (nsD s.wt)]
theorem nsD_has {K : PySem.W.Frag} {H : Hp} : ∀ l : List Nat, HasL K H (nsD l) (nsV l)
  | [] => rfl
  | i :: l => ⟨_, _, rfl, rfl, nsD_has l⟩
/-- Deriver(ties, events), kept -/
theorem ev_derD {w : World} {K : PySem.W.Frag} {mg : Str → Option Value} (T : Txt w K mg) {t : Tr} {l : List Nat} {ρ : List Sl} {ta : TA} (V : ValidT t) (hl : ∀ i ∈ l, i < t.length) (h : EvA K ta ρ [tiesD K t, .tup (nsD l)]) :
    Ev K (tMake (He.ga K "Deriver") (sp_Deriver___init__ K) [] E0 ta) ρ (derD K t (derN t l)) := fun O Y H σ I Q q => h O Y H σ I _ fun vs H1 s1 hv => by
  obtain ⟨tv, r1, rfl, h1, lv, r2, rfl, h2, h3⟩ := hv
  cases h3
  intro x dx nx ndx ne
  have I1 := I.mono s1
  have xn : x ∉ O ++ Y := fun z => I1.dom x z nx
  have up : ∀ b o, H1 b = some o → upd (upd H1 dx (.own x)) x (.ins (He.ga K "Deriver") dx []) b = some o := fun b o g2 => by
    have hbx : b ≠ x := fun z => by rw [z, nx] at g2; cases g2
    have hbd : b ≠ dx := fun z => by rw [z, ndx] at g2; cases g2
    rw [upd_ne hbx, upd_ne hbd]
    exact g2
  have sc : Same (cut H1 (O ++ Y)) (cut (upd (upd H1 dx (.own x)) x (.ins (He.ga K "Deriver") dx [])) (x :: (O ++ Y))) := fun b o hb => by
    obtain ⟨g1, g2⟩ := cut_some.mp hb
    have hbx : b ≠ x := fun z => by rw [z, nx] at g2; cases g2
    refine cut_some.mpr ⟨fun z => ?_, up b o g2⟩
    rcases List.mem_cons.mp z with z | z
    · exact hbx z
    · exact g1 z
  refine ⟨O ++ Y, x, dx, tv, lv, t, l, rfl, upd_same, ⟨xn, fun a ha => ?_⟩, V, h1.mono sc, h2.mono sc, hl, fun a1 a2 H2 m1 m2 D keep => ?_⟩
  · obtain ⟨o, ho⟩ := Option.ne_none_iff_exists'.mp (I1.dom a ha)
    rw [up a o ho]
    exact fun z => by cases z
  · have s2 : Same H1 H2 := fun b o g2 => keep b o (fun z => by rw [z, nx] at g2; cases g2) (up b o g2)
    have nz : ∀ a, upd (upd H1 dx (.own x)) x (.ins (He.ga K "Deriver") dx []) a = none → a ∉ O ++ Y := fun a ha z => by
      obtain ⟨o, ho⟩ := Option.ne_none_iff_exists'.mp (I1.dom a z)
      rw [up a o ho] at ha
      cases ha
    have big : ∀ b, b ∈ O ++ Y → b ∈ x :: a1 :: a2 :: (O ++ Y) := fun b hb => List.mem_cons_of_mem _ (List.mem_cons_of_mem _ (List.mem_cons_of_mem _ hb))
    obtain ⟨r, r1, r2⟩ := D.st
    refine ⟨rfl, q (.ref x) H2 (s1.trans s2) ⟨x, dx, [tv, .ref a1, .ref a2], rfl, cut_some.mpr ⟨xn, D.o⟩, rfl, _, _, rfl, D.ti.mono (cut_more big), _, _, rfl, ?_, _, _, rfl, ?_, rfl⟩⟩
    · exact AHas.dk (r := r) (r2.imp fun _ _ z => z.mono (cut_more big)) (cut_some.mpr ⟨nz a1 m1, r1⟩)
    · exact ⟨a2, _, rfl, .inl (cut_some.mpr ⟨nz a2 m2, D.wt⟩), nsD_has _⟩
/-- the premises of a step -/
def Stp.pre : Stp → List Nat
  | .giv _ => []
  | .nee _ e => [e]
  | .fin _ a b => [a, b]
def wantS (st : List (Int × Stp)) (wd : List (Int × Unit)) (k : Int) : List (Int × Unit) := if (alook wd k).isSome = true then amerge wd (dmade (fun _ => true) (fun i : Nat => (i : Int)) (fun _ => ()) (match alook st k with | some s => s.pre | none => [])) else wd
def wants (st : List (Int × Stp)) (e : Nat) (ks : List Int) : List (Int × Unit) := ks.foldl (wantS st) [((e : Int), ())]
theorem wantS_len (st : List (Int × Stp)) (wd : List (Int × Unit)) (k : Int) : (wantS st wd k).length ≤ wd.length + 2 := by
  unfold wantS
  split
  · refine Nat.le_trans (amerge_len _ _) ?_
    have h1 := dmade_len (fun _ : Nat => true) (fun i : Nat => (i : Int)) (fun _ => ()) (match alook st k with | some s => s.pre | none => [])
    have h2 : (match alook st k with | some s => s.pre | none => []).length ≤ 2 := by
      cases alook st k with
      | none => exact Nat.zero_le _
      | some s => cases s <;> simp [Stp.pre]
    omega
  · omega
theorem wants_len (st : List (Int × Stp)) (e : Nat) (ks : List Int) : (wants st e ks).length ≤ 1 + 2 * ks.length := by
  have key : ∀ (ks : List Int) (wd : List (Int × Unit)), (ks.foldl (wantS st) wd).length ≤ wd.length + 2 * ks.length := fun ks => by
    induction ks with
    | nil => intro wd; simp
    | cons k ks ih =>
      intro wd
      have h1 := ih (wantS st wd k)
      have h2 := wantS_len st wd k
      rw [List.foldl_cons, List.length_cons]
      omega
  exact key ks _
def derSteps (st : List (Int × Stp)) (e : Nat) : List Dt := (st.filter fun p => (alook (wants st e (akeys st).reverse) p.1).isSome).map fun p => p.2.D
theorem alook_mem {α : Type} {l : List (Int × α)} {k : Int} (h : k ∈ akeys l) : ∃ x, alook l k = some x := by
  have : (alook l k).isSome = true := (alook_some l k).mpr h
  exact Option.isSome_iff_exists.mp this
abbrev sp_Deriver_derivation (K : PySem.W.Frag) : Sp := spD K (fun x : Tr × DS × Nat => [derD K x.1 x.2.1, natD x.2.2]) (fun x => x.2.1.st.length ≤ 1000) (fun x => .tup (derSteps x.2.1.st x.2.2))
def t_Deriver_derivation (K : PySem.W.Frag) : TS := (tSeq (tAsg (tDisp [((tVar 1), (tC (.bl true)))]) (gName 2)) (tSeq (tFor (iSeq K (tRevL K (tCB (rLstA K) (tCons (tFld K (tVar 0) "steps") tNil)))) (gName 3) (tIfS (tTest (tOp (rInA K) (tVar 3) (tVar 2))) (tDrop (tUpd (tVar 2) (tDc (iSeq K (tSl (rSlX K) (tDGet (tFld K (tVar 0) "steps") (tVar 3)) (tPart (tC (.int 2))) tNoPart)) (gName 4) tYes (tVar 4) (tC (.bl true)) [4]))) tNext)) (tRet (tCB (rTupOf K) (tCons (tLockW (tLc (iItems (tFld K (tVar 0) "steps")) (gTup K 2 (gCons (gName 3) (gCons (gName 5) gNil))) (tTest (tOp (rInA K) (tVar 3) (tVar 2))) (tVar 5) [3, 5])) tNil)))))
theorem run_Deriver_derivation {w : World} {K : PySem.W.Frag} {mg : Str → Option Value} (T : Txt w K mg) (x : Tr × DS × Nat) (hx : x.2.1.st.length ≤ 1000) : Runs K (t_Deriver_derivation K) [.dat (derD K x.1 x.2.1), .dat (natD x.2.2), .un, .un, .un, .un] { nx := fun _ => (.tup (derSteps x.2.1.st x.2.2) : Dt) = .non, rt := fun e _ => e = .tup (derSteps x.2.1.st x.2.2) } := by
  obtain ⟨t, s, e⟩ := x
  have hx : s.st.length ≤ 1000 := hx
  have lk : (akeys s.st).reverse.length ≤ 1000 := by unfold akeys; rw [List.length_reverse, List.length_map]; exact hx
  have fld : ∀ {ρ : List Sl}, ρ[0]? = some (.dat (derD K t s)) → Ev K (tFld K (tVar 0) "steps") ρ (dkI Stp.D s.st) := fun h => ev_fld (ev_var h) T.cl_Deriver T.na_Deriver_steps rfl
  refine q_setN (en_disp1 (F := unitD) (x := ()) (ev_var rfl) ev_bl) ?_
  have hkd : ((s.st.map fun p => (Sum.inl p.1 : Key)).map kD).reverse = (akeys s.st).reverse.map Dt.int := by
    unfold akeys
    rw [List.map_map, List.map_reverse, List.map_map]
    rfl
  refine q_for (ds := (akeys s.st).reverse.map Dt.int) (sl := [3]) ((ei_seqL (en_revL (en_listDK (fld rfl).rd).ev.rd).ev).is hkd)
    (fun k ρ => ∃ s3 s4 s5, ρ = [.dat (derD K t s), .dat (natD e), .own none (dkI unitD (wants s.st e ((akeys s.st).reverse.take k))), s3, s4, s5]) ⟨_, _, _, rfl⟩ ?_ ?_
  · intro k d ρ2 hk ⟨s3, s4, s5, ee⟩
    subst ee
    rw [List.getElem?_map] at hk
    obtain ⟨z, hz, rfl⟩ := Option.map_eq_some_iff.mp hk
    have tk : (akeys s.st).reverse.take (k + 1) = (akeys s.st).reverse.take k ++ [z] := by rw [List.take_add_one, hz]; rfl
    have nx : wants s.st e ((akeys s.st).reverse.take (k + 1)) = wantS s.st (wants s.st e ((akeys s.st).reverse.take k)) z := by
      rw [tk]
      unfold wants
      rw [List.foldl_append]
      rfl
    have wl := wants_len s.st e ((akeys s.st).reverse.take k)
    have wl2 : ((akeys s.st).reverse.take k).length ≤ (akeys s.st).reverse.length := by rw [List.length_take]; omega
    refine ⟨_, tg_name, r_if (b := (alook (wants s.st e ((akeys s.st).reverse.take k)) z).isSome) (et_test ((ev_opR (ev_var rfl).rd (er_var rfl) (rv_ind (k := .inl z))).is (by rw [dget_I]; cases alook _ z <;> rfl))) (fun hb => ?_) fun hb => ?_⟩
    · have hm : z ∈ akeys s.st := List.mem_reverse.mp (List.mem_of_getElem? hz)
      obtain ⟨u, hu⟩ := alook_mem hm
      have cd : cutD (match u.D with | .tup ds => ds | _ => []) (some 2) none = nsD u.pre := by cases u <;> rfl
      refine r_dropM (em_upd (F := unitD) (m := dmade (fun _ => true) (fun i : Nat => (i : Int)) (fun _ => ()) u.pre) rfl (en_dcM (F := unitD) natD u.pre (fun _ => true) (fun i : Nat => (i : Int)) (fun _ => ())
        (ei_seqT ((ev_slT (ds := match u.D with | .tup ds => ds | _ => []) ((ev_dget (k := .inl z) (f := u.D) (fld rfl).rd (ev_var rfl) ?_).is ?_) (eo_part ev_int) eo_no).is (congrArg Dt.tup cd))).r (fun i hi => ?_) ?_).ev ?_) ⟨.dat (.int z), s4, s5, ?_⟩
      · rw [dget_I, hu]
        rfl
      · cases u <;> rfl
      · exact ⟨_, _, fun _ h => h, tg_name, et_yes, fun _ => ⟨ev_var rfl, ev_bl⟩⟩
      · have : u.pre.length ≤ 2 := by cases u <;> simp [Stp.pre]
        unfold sizeLine
        omega
      · have h1 := dmade_len (fun _ : Nat => true) (fun i : Nat => (i : Int)) (fun _ => ()) u.pre
        have : u.pre.length ≤ 2 := by cases u <;> simp [Stp.pre]
        unfold sizeLine
        omega
      · rw [nx]
        unfold wantS
        rw [if_pos hb, hu]
        rfl
    · refine r_next ⟨.dat (.int z), s4, s5, ?_⟩
      rw [nx]
      unfold wantS
      rw [if_neg (by rw [hb]; decide)]
      rfl
  · intro ρ2 ⟨s3, s4, s5, ee⟩
    subst ee
    rw [List.length_map, List.take_length]
    refine r_ret ((ev_cb1 (en_lockLcI (F := Stp.D) (fun p => (alook (wants s.st e (akeys s.st).reverse) p.1).isSome) (fun p => p.2.D) (fa_fld rfl T.cl_Deriver T.na_Deriver_steps rfl) (fun p hp => ?_) (by unfold sizeLine; omega)).ev.rd rc_tupL)) rfl
    exact ⟨_, _, fun _ h => h, tg_tup (tgs_cons tg_name (tgs_cons tg_name tgs_nil)) rfl, et_test ((ev_opR (ev_var rfl).rd (er_var rfl) (rv_ind (k := .inl p.1))).is (by rw [dget_I]; cases alook _ p.1 <;> rfl)), fun _ => ev_var rfl⟩
theorem ok_Deriver_derivation {P : Program} {w : World} {K : PySem.W.Frag} {mg : Str → Option Value} {base : Heap} (T : Txt w K mg) : MDef P w K mg base (He.ga K "Deriver") "derivation" ["self", "event"] 19 (sp_Deriver_derivation K) := by
  obtain ⟨f, fd, M, F⟩ := T.mt_Deriver_derivation
  exact ⟨f, fd, M, FunD.bindsN F (fun _ _ _ _ _ _ us hl => match us, hl with | [_, _], _ => rfl), fn_f F sc_Deriver_derivation (fun _ => rfl) (t_Deriver_derivation K) (fun cdv A outer s H E hr => (pss_cons (ps_set (i := 2) sc_Deriver_derivation.nd rfl (by first | exact Or.inl rfl | exact Or.inr rfl) (pe_disp (pps_cons (pv 1) pe_bl pps_nil) rfl rfl (by decide) (by decide))) (pss_cons (ps_for PassesOwn.never rfl (pi_seq (pe_revL (pe_callTy (call_lstA rfl) (by rfl) T.b_list (by decide +kernel) (pa_cons (pe_fld (pv 0) rfl) pa_nil)))) (pg_name (i := 3) sc_Deriver_derivation.nd rfl (by first | exact Or.inl rfl | exact Or.inr rfl)) (pss_one (ps_if (pt_cmpR (op_inA (hu65 hr)) (pv 3) (pv 2) (by rfl)) (pss_one (ps_expr (pe_upd (pv 2) (pe_dc (own := [("premise", 4)]) rfl sc_Deriver_derivation.nd (pi_seq (pe_slice sl_any (pe_dget (hu_of hr) (pe_fld (pv 0) rfl) (pv 3) (fun _ _ => rfl)) (po_some pe_int) po_none)) (blkOk_by (by kernel_rfl)) (fun _ _ _ _ _ => (pg_name (i := 4) sc_Deriver_derivation.nd rfl (by first | exact Or.inl rfl | exact Or.inr rfl))) (fun _ _ _ _ _ => pts_nil) (fun _ _ _ _ _ => (pv 4)) (fun _ _ _ _ _ => pe_bl)) ⟨rfl, rfl, rfl, rfl⟩))) pss_nil))) (pss_one (ps_ret (pe_callTy call_tuple_of (by rfl) T.b_tuple (by decide +kernel) (pa_cons (pe_lockW (pe_lc (own := [("one", 3), ("step", 5)]) rfl sc_Deriver_derivation.nd (pi_items (pe_fld (pv 0) rfl)) (blkOk_by (by kernel_rfl)) (fun _ _ _ _ _ => (pg_tup rfl (pgs_cons (pg_name (i := 3) sc_Deriver_derivation.nd rfl (by first | exact Or.inl rfl | exact Or.inr rfl)) (pgs_cons (pg_name (i := 5) sc_Deriver_derivation.nd rfl (by first | exact Or.inl rfl | exact Or.inr rfl)) pgs_nil)))) (fun _ _ _ _ _ => (pts_one (pt_cmpR (op_inA (hu65 hr)) (pv 3) (pv 2) (by rfl)))) (fun _ _ _ _ _ => (pv 5)))) pa_nil))))))) (by decide) (fun x hx => run_Deriver_derivation T x hx)⟩
end DL
namespace DL
open PySem PySem.Spec L2
theorem sc_derivation_in : FnScope ["ties", "events", "others", "deriver", "met", "event"] ["ties", "events", "others"] (defScope s_derivation_in) := ⟨rfl, rfl, rfl, by decide +kernel, rfl, by decide +kernel, by decide +kernel⟩
/-- the first of some events that a deriver has -/
def metN (t : Tr) (l o : List Nat) : List Nat := o.filter fun e => (alook (derN t l).st (e : Int)).isSome
def deriD (t : Tr) (l o : List Nat) : Dt := match metN t l o with
  | [] => .non
  | e :: _ => .tup (derSteps (derN t l).st e)
theorem deri_non (t : Tr) (l o : List Nat) : isNon (deriD t l o) = (metN t l o).isEmpty := by
  unfold deriD
  cases metN t l o <;> rfl
theorem met_mem {t : Tr} (V : ValidT t) {l o : List Nat} (hl : ∀ i ∈ l, i < t.length) {e : Nat} : e ∈ metN t l o ↔ e ∈ o ∧ e ∈ closN t l := by
  unfold metN
  rw [List.mem_filter]
  have : (alook (derN t l).st (e : Int)).isSome = true ↔ e ∈ closN t l := by
    rw [alook_some, ← mem_isort, closN_cast V hl, List.mem_map]
    constructor
    · rintro ⟨a, h1, h2⟩
      have : a = e := by omega
      rw [← this]
      exact h1
    · exact fun h => ⟨e, h, rfl⟩
  rw [this]
abbrev sp_derivation_in (K : PySem.W.Frag) : Sp := spD K (fun x : Tr × List Nat × List Nat => [tiesD K x.1, .tup (nsD x.2.1), .tup (nsD x.2.2)]) (fun x => ValidT x.1 ∧ x.1.length ≤ 1000 ∧ (∀ i ∈ x.2.1, i < x.1.length) ∧ x.2.2.length ≤ 1000) (fun x => deriD x.1 x.2.1 x.2.2)
def t_derivation_in (K : PySem.W.Frag) : TS := (tSeq (tAsg (tMake (He.ga K "Deriver") (sp_Deriver___init__ K) [] E0 (tCons (tVar 0) (tCons (tVar 1) tNil))) (gName 3)) (tSeq (tAsg (tLc (iSeq K (tVar 2)) (gName 5) (tTest (tOp (rInA K) (tVar 5) (tFld K (tVar 3) "steps"))) (tVar 5) [5]) (gName 4)) (tRet (tIf (tTest (tOp (rNeA K) (tVar 4) (tLst tNil))) (tMeth (He.ga K "Deriver") "derivation" (sp_Deriver_derivation K) [] E0 (tVar 3) (tCons (tOp (rIx K) (tVar 4) (tC (.int 0))) tNil)) (tC .non)))))
theorem run_derivation_in {w : World} {K : PySem.W.Frag} {mg : Str → Option Value} (T : Txt w K mg) (x : Tr × List Nat × List Nat) (hx : ValidT x.1 ∧ x.1.length ≤ 1000 ∧ (∀ i ∈ x.2.1, i < x.1.length) ∧ x.2.2.length ≤ 1000) : Runs K (t_derivation_in K) [.dat (tiesD K x.1), .dat (.tup (nsD x.2.1)), .dat (.tup (nsD x.2.2)), .un, .un, .un] { nx := fun _ => (deriD x.1 x.2.1 x.2.2 : Dt) = .non, rt := fun e _ => e = deriD x.1 x.2.1 x.2.2 } := by
  obtain ⟨t, l, o⟩ := x
  obtain ⟨V, h1, hl, ho⟩ := hx
  have h1 : t.length ≤ 1000 := h1
  have ho : o.length ≤ 1000 := ho
  have ol : (derN t l).st.length ≤ t.length := (derN_ok V hl).len
  have ml : (metN t l o).length ≤ o.length := List.length_filter_le _ _
  refine q_set (ev_derD T V hl (ea_cons (ev_var rfl) (ea_cons (ev_var rfl) ea_nil))) ?_
  refine q_set (d := .lst (nsD (metN t l o))) (en_lcM natD o (fun e => (alook (derN t l).st (e : Int)).isSome) natD (ei_seqT (ev_var rfl)).r (fun e he => ?_) (by unfold sizeLine; omega)).ev ?_
  · exact ⟨_, _, fun _ h => h, tg_name, et_test ((ev_op (ev_var rfl) (ev_fld (ev_var rfl) T.cl_Deriver T.na_Deriver_steps rfl) (rv_ind (k := .inl (e : Int)))).is (by rw [dget_I]; cases alook _ (e : Int) <;> rfl)), fun _ => ev_var rfl⟩
  · refine r_ret (ev_if (b := !(metN t l o).isEmpty) (et_test ((ev_op (ev_var rfl) (en_lst ea_nil (by decide)).ev (rv_neD (lay_nsD _) (show lay 1 (.lst []) = true by rfl))).is (by rw [deq_nil]))) (fun h => ?_) fun h => ev_non.is ?_) rfl
    · show Ev K _ _ (deriD t l o)
      cases hm : metN t l o with
      | nil => rw [hm] at h; cases h
      | cons e r =>
        refine (ev_meth ((t, derN t l, e) : Tr × DS × Nat) (ev_var rfl) rfl (ea_cons (ev_op (ev_var rfl) ev_int (rv_ixL (f := natD e) (show atI (nsD (e :: r)) ((0 : Nat) : Int) = some (natD e) from (atI_nat (by simp [nsD])).trans rfl))) ea_nil) rfl (by show (derN t l).st.length ≤ 1000; omega)).is ?_
        · show Dt.tup (derSteps (derN t l).st e) = _
          unfold deriD
          rw [hm]
    · have : metN t l o = [] := by simpa using h
      show Dt.non = deriD t l o
      unfold deriD
      rw [this]
theorem ok_derivation_in {P : Program} {w : World} {K : PySem.W.Frag} {mg : Str → Option Value} {base : Heap} (T : Txt w K mg) : Def P w K mg base "derivation_in" ["ties", "events", "others"] 20 (sp_derivation_in K) := by
  obtain ⟨f, fd, F, gl⟩ := T.fn_derivation_in
  exact ⟨f, fd, gl, F.kp, FunD.bindsN F (fun _ _ _ _ _ _ us hl => match us, hl with | [_, _, _], _ => rfl), fn_f F sc_derivation_in (fun _ => rfl) (t_derivation_in K) (fun cdv A outer s H E hr => (pss_cons (ps_set (i := 3) sc_derivation_in.nd rfl (by first | exact Or.inl rfl | exact Or.inr rfl) (pe_makeD (ok_Deriver___init__ T) hr (by decide) (by rfl) (pa_cons (pv 0) (pa_cons (pv 1) pa_nil)))) (pss_cons (ps_setLc (i := 4) (own := [("event", 5)]) rfl sc_derivation_in.nd rfl rfl (sw_true rfl rfl rfl (by decide +kernel)) (pi_seq (pv 2)) (blkOk_by (by kernel_rfl)) (fun _ _ _ _ _ => (pg_name (i := 5) sc_derivation_in.nd rfl (by first | exact Or.inl rfl | exact Or.inr rfl))) (fun _ _ _ _ _ => (pts_one (pt_cmpR (op_inA (hu65 hr)) (pv 5) (pe_fld (pv 3) rfl) (by rfl)))) (fun _ _ _ _ _ => (pv 5))) (pss_one (ps_ret (pe_ifExp (pt_cmpR (op_neA (hu65 hr)) (pv 4) (pe_lst pa_nil) (nomark _)) (pe_methD (pv 3) T.cl_Deriver (ok_Deriver_derivation T) hr (by decide) (pa_cons (pe_ix ix_seq (pv 4) pe_int (fun _ _ => rfl)) pa_nil)) pe_non)))))) (by decide) (fun x hx => run_derivation_in T x hx)⟩
end DL
namespace DL
open PySem PySem.Spec L2
theorem sc_given_by : FnScope ["trace", "events", "found", "event"] ["trace", "events"] (defScope s_given_by) := ⟨rfl, rfl, rfl, by decide +kernel, rfl, by decide +kernel, by decide +kernel⟩
/-- the events right before some, by their threads -/
def givK (t : Tr) (l : List Nat) : List (Option Int) := nkeys (fun i : Nat => (prevO t i).map fun (j : Nat) => (j : Int)) l
def givN (t : Tr) (l : List Nat) : List Nat := (isort ((givK t l).filterMap id)).map Int.toNat
theorem mem_givK {t : Tr} {l : List Nat} {k : Int} : some k ∈ givK t l ↔ ∃ i ∈ l, ∃ j : Nat, prevO t i = some j ∧ k = (j : Int) := by
  unfold givK
  rw [mem_nkeys]
  constructor
  · rintro ⟨i, hi, h⟩
    obtain ⟨j, h1, h2⟩ := Option.map_eq_some_iff.mp h
    exact ⟨i, hi, j, h1, h2.symm⟩
  · rintro ⟨i, hi, j, h1, h2⟩
    exact ⟨i, hi, by rw [h1, h2]; rfl⟩
theorem mem_givN {t : Tr} {l : List Nat} {j : Nat} : j ∈ givN t l ↔ ∃ i ∈ l, prevO t i = some j := by
  unfold givN
  simp only [List.mem_map, mem_isort, List.mem_filterMap, id_eq, exists_eq_right]
  constructor
  · rintro ⟨k, hk, rfl⟩
    obtain ⟨i, hi, j, h1, rfl⟩ := mem_givK.mp hk
    exact ⟨i, hi, h1⟩
  · rintro ⟨i, hi, h⟩
    exact ⟨(j : Int), mem_givK.mpr ⟨i, hi, j, h, rfl⟩, rfl⟩
theorem givN_cast (t : Tr) (l : List Nat) : isort ((givK t l).filterMap id) = (givN t l).map fun (n : Nat) => (n : Int) := by
  unfold givN
  rw [List.map_map]
  have h : ∀ x ∈ isort ((givK t l).filterMap id), ((fun (n : Nat) => (n : Int)) ∘ Int.toNat) x = id x := fun x hx => by
    have hx := mem_isort.mp hx
    obtain ⟨y, h1, h2⟩ := List.mem_filterMap.mp hx
    have h2 : y = some x := h2
    subst h2
    obtain ⟨i, _, j, _, rfl⟩ := mem_givK.mp h1
    rfl
  exact ((List.map_congr_left h).trans (List.map_id _)).symm
abbrev sp_given_by (K : PySem.W.Frag) : Sp := spD K (fun x : Tr × List Nat => [encT x.1, .tup (nsD x.2)]) (fun x => x.1.length ≤ 100000 ∧ (∀ i ∈ x.2, i < x.1.length) ∧ x.2.length ≤ 1000) (fun x => .tup (nsD (givN x.1 x.2)))
def t_given_by (w : World) (K : PySem.W.Frag) : TS := (tSeq (tAsg (tDcN w (iSeq K (tVar 1)) (gName 3) tYes (tCall (sp_previous_by K) [] E0 (tCons (tVar 0) (tCons (tVar 3) tNil))) (tC (.bl true)) [3]) (gName 2)) (tRet (tCB (rTupOf K) (tCons (tCB (rSortA K w) (tCons (tLockW (tLc (iKeysN w (tVar 2)) (gName 3) (tTest (tOp (fun x y H Q => y = .non ∧ Q (.bl (!decide (x = .non))) H) (tVar 3) (tC .non))) (tVar 3) [3])) tNil)) tNil))))
theorem run_given_by {w : World} {K : PySem.W.Frag} (x : Tr × List Nat) (hx : x.1.length ≤ 100000 ∧ (∀ i ∈ x.2, i < x.1.length) ∧ x.2.length ≤ 1000) : Runs K (t_given_by w K) [.dat (encT x.1), .dat (.tup (nsD x.2)), .un, .un] { nx := fun _ => (.tup (nsD (givN x.1 x.2)) : Dt) = .non, rt := fun e _ => e = .tup (nsD (givN x.1 x.2)) } := by
  obtain ⟨t, l⟩ := x
  obtain ⟨h1, hl, h2⟩ := hx
  have h2 : l.length ≤ 1000 := h2
  have gl : (givK t l).length ≤ l.length := nkeys_len _ _
  refine q_set (d := dnD w (givK t l)) (ev_dcN natD l (fun i : Nat => (prevO t i).map fun (j : Nat) => (j : Int)) (ei_seqT (ev_var rfl)).r (fun i hi => ⟨_, _, fun _ h => h, tg_name, et_yes, (ev_call ((t, i) : Tr × Nat) (ea_cons (ev_var rfl) (ea_cons (ev_var rfl) ea_nil)) ⟨h1, hl i hi⟩).is ?_, ev_bl⟩) (by unfold sizeLine; omega)) ?_
  · show optD (prevO t i) = _
    cases prevO t i <;> rfl
  · refine r_ret (d := .tup (nsD (givN t l))) ((ev_cb1 (ev_cb1 (f := .lst ((isort ((givK t l).filterMap id)).map .int)) ((Ev.is (f := .lst (((givK t l).filterMap id).map .int)) (en_lockLcN optI (givK t l) (fun k => k.isSome) optI rfl rfl (fun k hk => ⟨_, _, fun _ h => h, tg_name, et_test ((ev_op (ev_var rfl) ev_non rv_notN).is ?_), fun _ => ev_var rfl⟩) (by unfold sizeLine; omega)).ev ?_)).rd rc_sortL).rd rc_tupL).is ?_) rfl
    · cases k <;> rfl
    · show Dt.lst (made _ _ (givK t l)) = .lst (((givK t l).filterMap id).map Dt.int)
      congr 1
      generalize givK t l = ks
      induction ks with
      | nil => rfl
      | cons k ks ih =>
        cases k with
        | none => exact ih
        | some i => exact congrArg (Dt.int i :: ·) ih
    · rw [givN_cast, List.map_map]
      rfl
theorem ok_given_by {P : Program} {w : World} {K : PySem.W.Frag} {mg : Str → Option Value} {base : Heap} (T : Txt w K mg) : Def P w K mg base "given_by" ["trace", "events"] 3 (sp_given_by K) := by
  obtain ⟨f, fd, F, gl⟩ := T.fn_given_by
  exact ⟨f, fd, gl, F.kp, FunD.bindsN F (fun _ _ _ _ _ _ us hl => match us, hl with | [_, _], _ => rfl), fn_f F sc_given_by (fun _ => rfl) (t_given_by w K) (fun cdv A outer s H E hr => (pss_cons (ps_setDcN (i := 2) (own := [("event", 3)]) rfl sc_given_by.nd rfl rfl (sw_trueD rfl rfl rfl (by decide +kernel)) (pi_seq (pv 1)) (blkOk_by (by kernel_rfl)) (fun _ _ _ _ _ => (pg_name (i := 3) sc_given_by.nd rfl (by first | exact Or.inl rfl | exact Or.inr rfl))) (fun _ _ _ _ _ => pts_nil) (fun _ _ _ _ _ => (pe_callD (ok_previous_by T) hr (by decide) (by rfl) (pa_cons (pv 0) (pa_cons (pv 3) pa_nil)))) (fun _ _ _ _ _ => pe_bl)) (pss_one (ps_ret (pe_callTy call_tuple_of (by rfl) T.b_tuple (by decide +kernel) (pa_cons (pe_callB (cr_sortA rfl) (by rfl) T.b_sorted (by decide +kernel) (pa_cons (pe_lockW (pe_lc (own := [("event", 3)]) rfl sc_given_by.nd (pi_keysN (pv 2)) (blkOk_by (by kernel_rfl)) (fun _ _ _ _ _ => (pg_name (i := 3) sc_given_by.nd rfl (by first | exact Or.inl rfl | exact Or.inr rfl))) (fun _ _ _ _ _ => (pts_one (pt_cmpR op_notN (pv 3) pe_non (nomark _)))) (fun _ _ _ _ _ => (pv 3)))) pa_nil)) pa_nil)))))) (by decide) (fun x hx => run_given_by x hx)⟩
end DL
namespace DL
open PySem PySem.Spec L2
theorem sc_derivation_by : FnScope ["trace", "events", "others"] ["trace", "events", "others"] (defScope s_derivation_by) := ⟨rfl, rfl, rfl, by decide +kernel, rfl, by decide +kernel, by decide +kernel⟩
abbrev sp_derivation_by (K : PySem.W.Frag) : Sp := spD K (fun x : Tr × List Nat × List Nat => [encT x.1, .tup (nsD x.2.1), .tup (nsD x.2.2)]) (fun x => ValidT x.1 ∧ x.1.length ≤ 1000 ∧ (∀ i ∈ x.2.1, i < x.1.length) ∧ x.2.2.length ≤ 1000) (fun x => deriD x.1 x.2.1 x.2.2)
def t_derivation_by (K : PySem.W.Frag) : TS := (tRet (tCall (sp_derivation_in K) [] E0 (tCons (tMake (He.ga K "Ties") (sp_Ties___init__ K) [] E0 (tCons (tVar 0) tNil)) (tCons (tVar 1) (tCons (tVar 2) tNil)))))
theorem run_derivation_by {K : PySem.W.Frag} (x : Tr × List Nat × List Nat) (hx : ValidT x.1 ∧ x.1.length ≤ 1000 ∧ (∀ i ∈ x.2.1, i < x.1.length) ∧ x.2.2.length ≤ 1000) : Runs K (t_derivation_by K) [.dat (encT x.1), .dat (.tup (nsD x.2.1)), .dat (.tup (nsD x.2.2))] { nx := fun _ => (deriD x.1 x.2.1 x.2.2 : Dt) = .non, rt := fun e _ => e = deriD x.1 x.2.1 x.2.2 } :=
  r_ret (ev_call x (ea_cons (ev_make x.1 (ea_cons (ev_var rfl) ea_nil) hx.1.1.2) (ea_cons (ev_var rfl) (ea_cons (ev_var rfl) ea_nil))) hx) rfl
theorem ok_derivation_by {P : Program} {w : World} {K : PySem.W.Frag} {mg : Str → Option Value} {base : Heap} (T : Txt w K mg) : Def P w K mg base "derivation_by" ["trace", "events", "others"] 21 (sp_derivation_by K) := by
  obtain ⟨f, fd, F, gl⟩ := T.fn_derivation_by
  exact ⟨f, fd, gl, F.kp, FunD.bindsN F (fun _ _ _ _ _ _ us hl => match us, hl with | [_, _, _], _ => rfl), fn_f F sc_derivation_by (fun _ => rfl) (t_derivation_by K) (fun cdv A outer s H E hr => (pss_one (ps_ret (pe_callD (ok_derivation_in T) hr (by decide) (by rfl) (pa_cons (pe_makeD (ok_Ties___init__ T) hr (by decide) (by rfl) (pa_cons (pv 0) pa_nil)) (pa_cons (pv 1) (pa_cons (pv 2) pa_nil))))))) (by decide) (fun x hx => run_derivation_by x hx)⟩
end DL
namespace DL
open PySem PySem.Spec L2
theorem sc_reason_by : FnScope ["trace", "first", "second"] ["trace", "first", "second"] (defScope s_reason_by) := ⟨rfl, rfl, rfl, by decide +kernel, rfl, by decide +kernel, by decide +kernel⟩
abbrev sp_reason_by (K : PySem.W.Frag) : Sp := spD K (fun x : Tr × Nat × Nat => [encT x.1, natD x.2.1, natD x.2.2]) (fun x => ValidT x.1 ∧ x.1.length ≤ 1000 ∧ x.2.1 < x.1.length ∧ x.2.2 < x.1.length) (fun x => deriD x.1 (givN x.1 [x.2.1, x.2.2]) [x.2.1, x.2.2])
def t_reason_by (K : PySem.W.Frag) : TS := (tRet (tCall (sp_derivation_by K) [] E0 (tCons (tVar 0) (tCons (tCall (sp_given_by K) [] E0 (tCons (tVar 0) (tCons (tTup (tCons (tVar 1) (tCons (tVar 2) tNil))) tNil))) (tCons (tTup (tCons (tVar 1) (tCons (tVar 2) tNil))) tNil)))))
theorem giv_lt {t : Tr} (hf : faultOf t = none) {l : List Nat} (hl : ∀ i ∈ l, i < t.length) : ∀ i ∈ givN t l, i < t.length := fun i hi => by
  obtain ⟨k, hk, h⟩ := mem_givN.mp hi
  have := prev_lt hf (hl k hk) h
  have := hl k hk
  omega
theorem two_lt {n i j : Nat} (h1 : i < n) (h2 : j < n) : ∀ k ∈ [i, j], k < n := fun k hk => by
  simp only [List.mem_cons, List.not_mem_nil, or_false] at hk
  rcases hk with z | z <;> omega
theorem run_reason_by {K : PySem.W.Frag} (x : Tr × Nat × Nat) (hx : ValidT x.1 ∧ x.1.length ≤ 1000 ∧ x.2.1 < x.1.length ∧ x.2.2 < x.1.length) : Runs K (t_reason_by K) [.dat (encT x.1), .dat (natD x.2.1), .dat (natD x.2.2)] { nx := fun _ => (deriD x.1 (givN x.1 [x.2.1, x.2.2]) [x.2.1, x.2.2] : Dt) = .non, rt := fun e _ => e = deriD x.1 (givN x.1 [x.2.1, x.2.2]) [x.2.1, x.2.2] } := by
  obtain ⟨t, i, j⟩ := x
  obtain ⟨V, h1, h2, h3⟩ := hx
  have two : ∀ {ρ : List Sl}, ρ[1]? = some (.dat (natD i)) → ρ[2]? = some (.dat (natD j)) → Ev K (tTup (tCons (tVar 1) (tCons (tVar 2) tNil))) ρ (.tup (nsD [i, j])) := fun a b => ev_tup (ea_cons (ev_var a) (ea_cons (ev_var b) ea_nil)) (show 2 ≤ sizeLine by decide)
  exact r_ret (ev_call ((t, givN t [i, j], [i, j]) : Tr × List Nat × List Nat) (ea_cons (ev_var rfl) (ea_cons (ev_call ((t, [i, j]) : Tr × List Nat) (ea_cons (ev_var rfl) (ea_cons (two rfl rfl) ea_nil)) ⟨V.1.2, two_lt h2 h3, by show 2 ≤ 1000; decide⟩) (ea_cons (two rfl rfl) ea_nil))) ⟨V, h1, giv_lt V.2.1 (two_lt h2 h3), by show 2 ≤ 1000; decide⟩) rfl
theorem ok_reason_by {P : Program} {w : World} {K : PySem.W.Frag} {mg : Str → Option Value} {base : Heap} (T : Txt w K mg) : Def P w K mg base "reason_by" ["trace", "first", "second"] 22 (sp_reason_by K) := by
  obtain ⟨f, fd, F, gl⟩ := T.fn_reason_by
  exact ⟨f, fd, gl, F.kp, FunD.bindsN F (fun _ _ _ _ _ _ us hl => match us, hl with | [_, _, _], _ => rfl), fn_f F sc_reason_by (fun _ => rfl) (t_reason_by K) (fun cdv A outer s H E hr => (pss_one (ps_ret (pe_callD (ok_derivation_by T) hr (by decide) (by rfl) (pa_cons (pv 0) (pa_cons (pe_callD (ok_given_by T) hr (by decide) (by rfl) (pa_cons (pv 0) (pa_cons (pe_tup (pa_cons (pv 1) (pa_cons (pv 2) pa_nil))) pa_nil))) (pa_cons (pe_tup (pa_cons (pv 1) (pa_cons (pv 2) pa_nil))) pa_nil))))))) (by decide) (fun x hx => run_reason_by x hx)⟩
end DL
namespace DL
open PySem PySem.Spec L2
theorem sc_race_by : FnScope ["trace", "first", "second"] ["trace", "first", "second"] (defScope s_race_by) := ⟨rfl, rfl, rfl, by decide +kernel, rfl, by decide +kernel, by decide +kernel⟩
def raceB (t : Tr) (i j : Nat) : Bool := confl t i j && (metN t (givN t [i, j]) [i, j]).isEmpty
abbrev sp_race_by (K : PySem.W.Frag) : Sp := spD K (fun x : Tr × Nat × Nat => [encT x.1, natD x.2.1, natD x.2.2]) (fun x => ValidT x.1 ∧ x.1.length ≤ 1000 ∧ x.2.1 < x.1.length ∧ x.2.2 < x.1.length) (fun x => .bl (raceB x.1 x.2.1 x.2.2))
def t_race_by (K : PySem.W.Frag) : TS := (tRet (tAndV (tCall (sp_in_conflict K) [] E0 (tCons (tVar 0) (tCons (tVar 1) (tCons (tVar 2) tNil)))) (tOp (fun x y H Q => y = .non ∧ Q (.bl (decide (x = .non))) H) (tCall (sp_reason_by K) [] E0 (tCons (tVar 0) (tCons (tVar 1) (tCons (tVar 2) tNil)))) (tC .non))))
theorem run_race_by {K : PySem.W.Frag} (x : Tr × Nat × Nat) (hx : ValidT x.1 ∧ x.1.length ≤ 1000 ∧ x.2.1 < x.1.length ∧ x.2.2 < x.1.length) : Runs K (t_race_by K) [.dat (encT x.1), .dat (natD x.2.1), .dat (natD x.2.2)] { nx := fun _ => (.bl (raceB x.1 x.2.1 x.2.2) : Dt) = .non, rt := fun e _ => e = .bl (raceB x.1 x.2.1 x.2.2) } :=
  r_ret (ev_andV (ev_call x (ea_cons (ev_var rfl) (ea_cons (ev_var rfl) (ea_cons (ev_var rfl) ea_nil))) hx.2.2) fun _ => (ev_op (ev_call x (ea_cons (ev_var rfl) (ea_cons (ev_var rfl) (ea_cons (ev_var rfl) ea_nil))) hx) ev_non rv_isN).is (congrArg Dt.bl (deri_non _ _ _))) rfl
theorem ok_race_by {P : Program} {w : World} {K : PySem.W.Frag} {mg : Str → Option Value} {base : Heap} (T : Txt w K mg) : Def P w K mg base "race_by" ["trace", "first", "second"] 23 (sp_race_by K) := by
  obtain ⟨f, fd, F, gl⟩ := T.fn_race_by
  exact ⟨f, fd, gl, F.kp, FunD.bindsN F (fun _ _ _ _ _ _ us hl => match us, hl with | [_, _, _], _ => rfl), fn_f F sc_race_by (fun _ => rfl) (t_race_by K) (fun cdv A outer s H E hr => (pss_one (ps_ret (pe_and (pe_callD (ok_in_conflict T) hr (by decide) (by rfl) (pa_cons (pv 0) (pa_cons (pv 1) (pa_cons (pv 2) pa_nil)))) (pe_one (pe_cmpR op_isN (pe_callD (ok_reason_by T) hr (by decide) (by rfl) (pa_cons (pv 0) (pa_cons (pv 1) (pa_cons (pv 2) pa_nil)))) pe_non (nomark _))))))) (by decide) (fun x hx => run_race_by x hx)⟩
end DL
namespace DL
open PySem PySem.Spec L2
theorem sc_races_by : FnScope ["trace", "ties", "pair"] ["trace"] (defScope s_races_by) := ⟨rfl, rfl, rfl, by decide +kernel, rfl, by decide +kernel, by decide +kernel⟩
/-- the races -/
def racesN (t : Tr) : List (Nat × Nat) := (confs t).filter fun p => (metN t (givN t [p.1, p.2]) [p.1, p.2]).isEmpty
theorem confs_sz {t : Tr} (h : t.length ≤ 1000) : (confs t).length < sizeLine := by
  have h1 := confs_len t
  have h2 : t.length * t.length ≤ 1000 * 1000 := Nat.mul_le_mul h h
  unfold sizeLine
  omega
theorem mem_races {t : Tr} {p : Nat × Nat} : p ∈ racesN t ↔ p.1 < p.2 ∧ p.2 < t.length ∧ raceB t p.1 p.2 = true := by
  unfold racesN raceB
  rw [List.mem_filter, mem_confs, Bool.and_eq_true]
  exact ⟨fun ⟨⟨a, b, c⟩, d⟩ => ⟨a, b, c, d⟩, fun ⟨a, b, c, d⟩ => ⟨⟨a, b, c⟩, d⟩⟩
abbrev sp_races_by (K : PySem.W.Frag) : Sp := spD K (fun x : Tr => [encT x]) (fun x => ValidT x ∧ x.length ≤ 1000) (fun x => .lst ((racesN x).map pairN))
def t_races_by (K : PySem.W.Frag) : TS := (tSeq (tAsg (tMake (He.ga K "Ties") (sp_Ties___init__ K) [] E0 (tCons (tVar 0) tNil)) (gName 1)) (tRet (tLc (iSeq K (tCall (sp_conflicts_by K) [] E0 (tCons (tVar 0) tNil))) (gName 2) (tTest (tOp (fun x y H Q => y = .non ∧ Q (.bl (decide (x = .non))) H) (tCall (sp_derivation_in K) [] E0 (tCons (tVar 1) (tCons (tCall (sp_given_by K) [] E0 (tCons (tVar 0) (tCons (tVar 2) tNil))) (tCons (tVar 2) tNil)))) (tC .non))) (tVar 2) [2])))
theorem run_races_by {K : PySem.W.Frag} (t : Tr) (hx : ValidT t ∧ t.length ≤ 1000) : Runs K (t_races_by K) [.dat (encT t), .un, .un] { nx := fun _ => (.lst ((racesN t).map pairN) : Dt) = .non, rt := fun e _ => e = .lst ((racesN t).map pairN) } := by
  obtain ⟨V, h1⟩ := hx
  refine q_set (ev_make t (ea_cons (ev_var rfl) ea_nil) V.1.2) (r_ret (en_lcM pairN (confs t) (fun p => (metN t (givN t [p.1, p.2]) [p.1, p.2]).isEmpty) pairN (ei_seqL (ev_call t (ea_cons (ev_var rfl) ea_nil) h1)).r (fun p hp => ?_) (confs_sz h1)).ev rfl)
  obtain ⟨a, b, _⟩ := mem_confs.mp hp
  have two : ∀ k ∈ [p.1, p.2], k < t.length := two_lt (by omega) b
  exact ⟨_, _, fun _ h => h, tg_name, et_test ((ev_op (ev_call ((t, givN t [p.1, p.2], [p.1, p.2]) : Tr × List Nat × List Nat) (ea_cons (ev_var rfl) (ea_cons (ev_call ((t, [p.1, p.2]) : Tr × List Nat) (ea_cons (ev_var rfl) (ea_cons (ev_var rfl) ea_nil)) ⟨V.1.2, two, by show 2 ≤ 1000; decide⟩) (ea_cons (ev_var rfl) ea_nil))) ⟨V, h1, giv_lt V.2.1 two, by show 2 ≤ 1000; decide⟩) ev_non rv_isN).is (congrArg Dt.bl (deri_non _ _ _))), fun _ => ev_var rfl⟩
theorem ok_races_by {P : Program} {w : World} {K : PySem.W.Frag} {mg : Str → Option Value} {base : Heap} (T : Txt w K mg) : Def P w K mg base "races_by" ["trace"] 24 (sp_races_by K) := by
  obtain ⟨f, fd, F, gl⟩ := T.fn_races_by
  exact ⟨f, fd, gl, F.kp, FunD.bindsN F (fun _ _ _ _ _ _ us hl => match us, hl with | [_], _ => rfl), fn_f F sc_races_by (fun _ => rfl) (t_races_by K) (fun cdv A outer s H E hr => (pss_cons (ps_set (i := 1) sc_races_by.nd rfl (by first | exact Or.inl rfl | exact Or.inr rfl) (pe_makeD (ok_Ties___init__ T) hr (by decide) (by rfl) (pa_cons (pv 0) pa_nil))) (pss_one (ps_ret (pe_lc (own := [("pair", 2)]) rfl sc_races_by.nd (pi_seq (pe_callD (ok_conflicts_by T) hr (by decide) (by rfl) (pa_cons (pv 0) pa_nil))) (blkOk_by (by kernel_rfl)) (fun _ _ _ _ _ => (pg_name (i := 2) sc_races_by.nd rfl (by first | exact Or.inl rfl | exact Or.inr rfl))) (fun _ _ _ _ _ => (pts_one (pt_cmpR op_isN (pe_callD (ok_derivation_in T) hr (by decide) (by rfl) (pa_cons (pv 1) (pa_cons (pe_callD (ok_given_by T) hr (by decide) (by rfl) (pa_cons (pv 0) (pa_cons (pv 2) pa_nil))) (pa_cons (pv 2) pa_nil)))) pe_non (nomark _)))) (fun _ _ _ _ _ => (pv 2))))))) (by decide) (fun x hx => run_races_by x hx)⟩
end DL
namespace DL
open PySem PySem.Spec L2
theorem sc_races_of : FnScope ["trace"] ["trace"] (defScope s_races_of) := ⟨rfl, rfl, rfl, by decide +kernel, rfl, by decide +kernel, by decide +kernel⟩
abbrev sp_races_of (K : PySem.W.Frag) : Sp := spD K (fun x : Tr => [encT x]) (fun x => ValidT x ∧ x.length ≤ 1000) (fun x => .lst ((racesN x).map pairN))
def t_races_of (K : PySem.W.Frag) : TS := (tSeq (tDrop (tCall (sp_check_trace K) [] E0 (tCons (tVar 0) tNil))) (tRet (tCall (sp_races_by K) [] E0 (tCons (tVar 0) tNil))))
theorem run_races_of {K : PySem.W.Frag} (t : Tr) (hx : ValidT t ∧ t.length ≤ 1000) : Runs K (t_races_of K) [.dat (encT t)] { nx := fun _ => (.lst ((racesN t).map pairN) : Dt) = .non, rt := fun e _ => e = .lst ((racesN t).map pairN) } :=
  q_drop (ev_call t (ea_cons (ev_var rfl) ea_nil) ⟨hx.1.1, hx.1.2.1⟩) (r_ret (ev_call t (ea_cons (ev_var rfl) ea_nil) hx) rfl)
theorem ok_races_of {P : Program} {w : World} {K : PySem.W.Frag} {mg : Str → Option Value} {base : Heap} (T : Txt w K mg) : Def P w K mg base "races_of" ["trace"] 25 (sp_races_of K) := by
  obtain ⟨f, fd, F, gl⟩ := T.fn_races_of
  exact ⟨f, fd, gl, F.kp, FunD.bindsN F (fun _ _ _ _ _ _ us hl => match us, hl with | [_], _ => rfl), fn_f F sc_races_of (fun _ => rfl) (t_races_of K) (fun cdv A outer s H E hr => (pss_cons (ps_expr (pe_callD (ok_check_trace T) hr (by decide) (by rfl) (pa_cons (pv 0) pa_nil))) (pss_one (ps_ret (pe_callD (ok_races_by T) hr (by decide) (by rfl) (pa_cons (pv 0) pa_nil)))))) (by decide) (fun x hx => run_races_of x hx)⟩
end DL
namespace DL
open PySem PySem.Spec L2
theorem sc_just_before : FnScope ["ties", "event", "trace", "found", "one"] ["ties", "event"] (defScope s_just_before) := ⟨rfl, rfl, rfl, by decide +kernel, rfl, by decide +kernel, by decide +kernel⟩
abbrev sp_just_before (K : PySem.W.Frag) : Sp := spD K (fun x : Tr × Nat => [tiesD K x.1, natD x.2]) (fun x => x.1.length ≤ 100000 ∧ x.2 < x.1.length) (fun x => .lst (nsD (preds x.1 x.2)))
def t_just_before (K : PySem.W.Frag) : TS := (tSeq (tAsg (tFld K (tVar 0) "base") (gName 2)) (tSeq (tAsg (tLst (tCons (tCall (sp_previous_by K) [] E0 (tCons (tVar 2) (tCons (tVar 1) tNil))) tNil)) (gName 3)) (tSeq (tIfS (tTest (tOp (rEqA K) (tCall (sp_name_of K) [] E0 (tCons (tVar 2) (tCons (tVar 1) tNil))) (tC (.str "join")))) (tDrop (tBM K "list" rAppend (tVar 3) (tCons (tCall (sp_join_by K) [] E0 (tCons (tVar 2) (tCons (tVar 1) tNil))) tNil))) tNext) (tSeq (tDrop (tBM K "list" rExtend (tVar 3) (tCons (tLockW (tLc (iKeys (tFld K (tVar 0) "ends")) (gName 4) (tAnd (tTest (tOp (rI0 fun i j => .bl (decide (i < j))) (tVar 4) (tVar 1))) (tB (tCall (sp_are_blocking K) [] E0 (tCons (tVar 2) (tCons (tVar 4) (tCons (tVar 1) tNil)))))) (tDGet (tFld K (tVar 0) "ends") (tVar 4)) [4])) tNil))) (tRet (tLc (iSeq K (tVar 3)) (gName 4) (tTest (tOp (fun x y H Q => y = .non ∧ Q (.bl (!decide (x = .non))) H) (tVar 4) (tC .non))) (tVar 4) [4]))))))
theorem run_just_before {w : World} {K : PySem.W.Frag} {mg : Str → Option Value} (T : Txt w K mg) (x : Tr × Nat) (hx : x.1.length ≤ 100000 ∧ x.2 < x.1.length) : Runs K (t_just_before K) [.dat (tiesD K x.1), .dat (natD x.2), .un, .un, .un] { nx := fun _ => (.lst (nsD (preds x.1 x.2)) : Dt) = .non, rt := fun e _ => e = .lst (nsD (preds x.1 x.2)) } := by
  obtain ⟨t, i⟩ := x
  have h1 : t.length ≤ 100000 := hx.1
  have h2 : i < t.length := hx.2
  have tk : (takers t).length ≤ t.length := by
    have := List.length_filter_le (fun i => (Tr.at t i).nm.takes) (List.range t.length)
    rw [List.length_range] at this
    exact this
  have kk : (ends t).map (fun p => (Sum.inl p.1 : Key)) = (takers t).map fun (k : Nat) => (Sum.inl (k : Int) : Key) := by
    rw [ends_eq, List.map_map]
    rfl
  have fin : ∀ l : List (Option Nat), l = [prevO t i] ++ (if (Tr.at t i).nm = .jn then [joinO t i] else []) → l.length ≤ 2 → Runs K (tSeq (tDrop (tBM K "list" rExtend (tVar 3) (tCons (tLockW (tLc (iKeys (tFld K (tVar 0) "ends")) (gName 4) (tAnd (tTest (tOp (rI0 fun i j => .bl (decide (i < j))) (tVar 4) (tVar 1))) (tB (tCall (sp_are_blocking K) [] E0 (tCons (tVar 2) (tCons (tVar 4) (tCons (tVar 1) tNil)))))) (tDGet (tFld K (tVar 0) "ends") (tVar 4)) [4])) tNil))) (tRet (tLc (iSeq K (tVar 3)) (gName 4) (tTest (tOp (fun x y H Q => y = .non ∧ Q (.bl (!decide (x = .non))) H) (tVar 4) (tC .non))) (tVar 4) [4])))
      [.dat (tiesD K t), .dat (natD i), .dat (encT t), .own none (.lst (l.map optD)), .un] { nx := fun _ => (Dt.lst (nsD (preds t i)) : Dt) = .non, rt := fun e _ => e = .lst (nsD (preds t i)) } := fun l hl hz => by
    refine q_ext rfl (en_lockLc natD (takers t) (fun k => decide (k < i) && blk t k i) (fun k => optD (endO t k)) (fa_fld rfl T.cl_Ties T.na_Ties_ends rfl) ?_ (fun k hk => ?_) (by unfold sizeLine; omega)) ?_ ?_
    · rw [kk, List.map_map]
      rfl
    · obtain ⟨hk1, hk2⟩ := takers_mem.mp hk
      refine ⟨_, _, fun _ h => h, tg_name, et_and (et_test ((ev_op (ev_var rfl) (ev_var rfl) rv_B0).is ?_)) (fun _ => et_B (ev_call (t, k, i) (ea_cons (ev_var rfl) (ea_cons (ev_var rfl) (ea_cons (ev_var rfl) ea_nil))) ⟨hk1, h2⟩)), fun _ => ev_dget (k := .inl (k : Int)) (ev_fld (ev_var rfl) T.cl_Ties T.na_Ties_ends rfl).rd (ev_var rfl) ?_⟩
      · exact congrArg Dt.bl (decide_eq_decide.mpr ⟨fun z => by have z : (k : Int) < (i : Int) := z; omega, fun z => by show (k : Int) < (i : Int); omega⟩)
      · rw [dget_I, ends_look hk]
        rfl
    · have h3 := made_len (fun k => decide (k < i) && blk t k i) (fun k => optD (endO t k)) (takers t)
      rw [List.length_map]
      unfold sizeLine
      omega
    · have e1 : made (fun k => decide (k < i) && blk t k i) (fun k => optD (endO t k)) (takers t) = (((takers t).filter fun k => decide (k < i) && blk t k i).map (endO t)).map optD := by
        unfold made
        rw [List.map_map]
        rfl
      rw [e1, ← List.map_append]
      refine r_ret ((en_lcM optD (l ++ ((takers t).filter fun k => decide (k < i) && blk t k i).map (endO t)) (fun o => o.isSome) optD (eir_seqL (er_var rfl)) (fun o ho => ?_) ?_).ev.is ?_) rfl
      · cases o with
        | none => exact ⟨_, _, fun _ h => h, tg_name, et_test (ev_op (ev_var rfl) ev_non rv_notN), fun h => by cases h⟩
        | some k => exact ⟨_, _, fun _ h => h, tg_name, et_test (ev_op (ev_var rfl) ev_non rv_notN), fun _ => ev_var rfl⟩
      · have h3 := List.length_filter_le (fun k => decide (k < i) && blk t k i) (takers t)
        rw [List.length_append, List.length_map]
        unfold sizeLine
        omega
      · rw [made_some, hl]
        rfl
  have nm : ∀ ρ : List Sl, ρ[2]? = some (.dat (encT t)) → ρ[1]? = some (.dat (natD i)) → Ev K (tCall (sp_name_of K) [] E0 (tCons (tVar 2) (tCons (tVar 1) tNil))) ρ (.str (Tr.at t i).nm.s) := fun ρ a b => ev_call (t, i) (ea_cons (ev_var a) (ea_cons (ev_var b) ea_nil)) h2
  refine q_set (ev_fld (ev_var rfl) T.cl_Ties T.na_Ties_base rfl) (q_setN (en_lst (ea_cons (ev_call (t, i) (ea_cons (ev_var rfl) (ea_cons (ev_var rfl) ea_nil)) hx) ea_nil) (show 1 ≤ sizeLine by decide)) ?_)
  refine r_seq (r_if (et_test (ev_op (nm _ rfl rfl) ev_str rv_eqAS)) (fun e => ?_) fun e => ?_)
  · have e' : (Tr.at t i).nm = .jn := Nm.inj (of_decide_eq_true e)
    refine r_app rfl (ev_call (t, i) (ea_cons (ev_var rfl) (ea_cons (ev_var rfl) ea_nil)) hx) (show 1 < sizeLine by decide) ?_
    exact fin [prevO t i, joinO t i] (by rw [if_pos e']; rfl) (Nat.le_refl _)
  · have n2 : (Tr.at t i).nm ≠ .jn := fun z => of_decide_eq_false e (by show (Tr.at t i).nm.s = Nm.s .jn; rw [z])
    refine r_next ?_
    exact fin [prevO t i] (by rw [if_neg n2]; rfl) (show 1 ≤ 2 by decide)
theorem ok_just_before {P : Program} {w : World} {K : PySem.W.Frag} {mg : Str → Option Value} {base : Heap} (T : Txt w K mg) : Def P w K mg base "just_before" ["ties", "event"] 3 (sp_just_before K) := by
  obtain ⟨f, fd, F, gl⟩ := T.fn_just_before
  exact ⟨f, fd, gl, F.kp, FunD.bindsN F (fun _ _ _ _ _ _ us hl => match us, hl with | [_, _], _ => rfl), fn_f F sc_just_before (fun _ => rfl) (t_just_before K) (fun cdv A outer s H E hr => (pss_cons (ps_set (i := 2) sc_just_before.nd rfl (by first | exact Or.inl rfl | exact Or.inr rfl) (pe_fld (pv 0) rfl)) (pss_cons (ps_set (i := 3) sc_just_before.nd rfl (by first | exact Or.inl rfl | exact Or.inr rfl) (pe_lst (pa_cons (pe_callD (ok_previous_by T) hr (by decide) (by rfl) (pa_cons (pv 2) (pa_cons (pv 1) pa_nil))) pa_nil))) (pss_cons (ps_if (pt_cmpR (op_eqA (hu65 hr)) (pe_callD (ok_name_of T) hr (by decide) (by rfl) (pa_cons (pv 2) (pa_cons (pv 1) pa_nil))) (pe_gstr T.c_JOIN rfl) (nomark _)) (pss_one (ps_expr (pe_bm PySem.F.plainAttrs_list PySem.F.slot_list_append PySem.F.type_list_append mt_append (pv 3) (pa_cons (pe_callD (ok_join_by T) hr (by decide) (by rfl) (pa_cons (pv 2) (pa_cons (pv 1) pa_nil))) pa_nil)))) pss_nil) (pss_cons (ps_expr (pe_bm PySem.F.plainAttrs_list PySem.F.slot_list_extend PySem.F.type_list_extend mt_extend (pv 3) (pa_cons (pe_lockW (pe_lc (own := [("one", 4)]) rfl sc_just_before.nd (pi_keys (pe_fld (pv 0) rfl)) (blkOk_by (by kernel_rfl)) (fun _ _ _ _ _ => (pg_name (i := 4) sc_just_before.nd rfl (by first | exact Or.inl rfl | exact Or.inr rfl))) (fun _ _ _ _ _ => (pts_one (PW.pt (pw_and (pt_cmpR op_lt (pv 4) (pv 1) (nomark _)) (pw_and1 (pt_val (pe_callD (ok_are_blocking T) hr (by decide) (by rfl) (pa_cons (pv 2) (pa_cons (pv 4) (pa_cons (pv 1) pa_nil)))))))))) (fun _ _ _ _ _ => (pe_dget (hu_of hr) (pe_fld (pv 0) rfl) (pv 4) (fun _ _ => rfl))))) pa_nil))) (pss_one (ps_ret (pe_lc (own := [("one", 4)]) rfl sc_just_before.nd (pi_seq (pv 3)) (blkOk_by (by kernel_rfl)) (fun _ _ _ _ _ => (pg_name (i := 4) sc_just_before.nd rfl (by first | exact Or.inl rfl | exact Or.inr rfl))) (fun _ _ _ _ _ => (pts_one (pt_cmpR op_notN (pv 4) pe_non (nomark _)))) (fun _ _ _ _ _ => (pv 4)))))))))) (by decide) (fun x hx => run_just_before T x hx)⟩
end DL
namespace DL
open PySem PySem.Spec L2
theorem sc_pasts_by : FnScope ["trace", "ties", "found", "event", "past", "one"] ["trace"] (defScope s_pasts_by) := ⟨rfl, rfl, rfl, by decide +kernel, rfl, by decide +kernel, by decide +kernel⟩
abbrev sp_pasts_by (K : PySem.W.Frag) : Sp := spD K (fun x : Tr => [encT x]) (fun x => x.length ≤ 1000 ∧ Back x) (fun x => .lst ((pasts x).map (dkI unitD)))
def t_pasts_by (K : PySem.W.Frag) : TS := (tSeq (tPar 1 2 (tCons (tMake (He.ga K "Ties") (sp_Ties___init__ K) [] E0 (tCons (tVar 0) tNil)) (tCons (tLst tNil) tNil))) (tSeq (tFor (iRng1 (tCons (tCB (rLen K) (tCons (tVar 0) tNil)) tNil)) (gName 3) (tSeq (tAsg tDNewK (gName 4)) (tSeq (tFor (iSeq K (tCall (sp_just_before K) [] E0 (tCons (tVar 1) (tCons (tVar 3) tNil)))) (gName 5) (tSeq (sDPut (tVar 4) (tVar 5) (tC (.bl true))) (tDrop (tUpd (tVar 4) (tOp (rIx K) (tVar 2) (tVar 5)))))) (tDrop (tBM K "list" rAppend (tVar 2) (tCons (tVar 4) tNil)))))) (tRet (tVar 2))))
theorem run_pasts_by {w : World} {K : PySem.W.Frag} {mg : Str → Option Value} (T : Txt w K mg) (x : Tr) (hx : x.length ≤ 1000 ∧ Back x) : Runs K (t_pasts_by K) [.dat (encT x), .un, .un, .un, .un, .un] { nx := fun _ => (.lst ((pasts x).map (dkI unitD)) : Dt) = .non, rt := fun e _ => e = .lst ((pasts x).map (dkI unitD)) } := by
  obtain ⟨h1, h2⟩ := hx
  have few := fun n (hn : n ≤ x.length) => few_up x n fun i hi => h2 i (by omega)
  refine q_parDN (ev_make x (ea_cons (ev_var rfl) ea_nil) (show x.length ≤ 100000 by omega)) (en_lst ea_nil (by decide)) (by decide) ?_
  refine q_for (ds := (List.range x.length).map natD) (sl := [3]) ((ei_rng1 (n := (x.length : Int)) (ea_cons ((ev_cb1 (ev_var rfl).rd rc_lenT).is (by rw [List.length_map])) ea_nil) (by omega)).is (by rw [show ((x.length : Int)).toNat = x.length by omega]; exact nums_range0 _))
    (fun k ρ => ∃ s3 s4 s5, ρ = [.dat (encT x), .dat (tiesD K x), .own none (.lst ((pastsUp x k).map (dkI unitD))), s3, s4, s5]) ⟨_, _, _, rfl⟩ ?_ ?_
  · intro k d ρ2 hk ⟨s3, s4, s5, e⟩
    subst e
    have hkl : k < x.length := by
      have := (List.getElem?_eq_some_iff.mp hk).1
      rw [List.length_map, List.length_range] at this
      exact this
    have hd : d = natD k := by
      rw [List.getElem?_map, List.getElem?_range hkl] at hk
      exact (Option.some.inj hk).symm
    subst hd
    refine ⟨_, tg_name, q_setN en_dk ?_⟩
    have bk := h2 k hkl
    refine q_for (sl := [5]) (ei_seqL (ev_call (x, k) (ea_cons (ev_var rfl) (ea_cons (ev_var rfl) ea_nil)) ⟨by show x.length ≤ 100000; omega, hkl⟩))
      (fun m ρ => ∃ s5, ρ = [.dat (encT x), .dat (tiesD K x), .own none (.lst ((pastsUp x k).map (dkI unitD))), .dat (natD k), .own none (dkI unitD (pastOf (pastsUp x k) ((preds x k).take m))), s5]) ⟨_, rfl⟩ ?_ ?_
    · intro m d ρ2 hm ⟨s5, e⟩
      subst e
      have hml : m < (preds x k).length := by
        have := (List.getElem?_eq_some_iff.mp hm).1
        rw [nsD_len] at this
        exact this
      have hj : (preds x k)[m]? = some (preds x k)[m] := List.getElem?_eq_getElem hml
      have hd : d = natD (preds x k)[m] := by
        rw [nsD, List.getElem?_map, hj] at hm
        exact (Option.some.inj hm).symm
      subst hd
      have hjk : (preds x k)[m] < k := bk _ (List.getElem_mem hml)
      have hlen : (pastsUp x k).length = k := pastsUp_len x k
      have fw : Few k (pastOf (pastsUp x k) ((preds x k).take m)) := few_past (few k (by omega)) (fun j hj => bk j (List.mem_of_mem_take hj)) (Few.nil k)
      have fw2 := fw.put hjk
      have hg : (pastsUp x k)[(preds x k)[m]]? = some ((pastsUp x k).getD (preds x k)[m] []) := by
        rw [List.getD_eq_getElem?_getD, List.getElem?_eq_getElem (by omega)]
        rfl
      have fg : Few k ((pastsUp x k).getD (preds x k)[m] []) := by
        refine few k (by omega) _ ?_
        exact List.mem_of_getElem? hg
      have z1 := fw.len
      have z2 := fw2.len
      have z3 := fg.len
      refine ⟨_, tg_name, q_put (F := unitD) (x := ()) rfl ev_bl (ev_var rfl) (by unfold sizeLine; omega) ?_⟩
      refine r_dropM (em_upd (F := unitD) (m := (pastsUp x k).getD (preds x k)[m] []) rfl (ev_opR (er_var rfl) (ev_var rfl).rd (rv_ixL ((atI_nat (by rw [List.length_map]; omega)).trans ?_))) (by unfold sizeLine; omega)) ⟨.dat (natD (preds x k)[m]), ?_⟩
      · rw [List.getElem?_map, hg]
        rfl
      · have tk : (preds x k).take (m + 1) = (preds x k).take m ++ [(preds x k)[m]] := by rw [List.take_add_one, hj]; rfl
        rw [tk]
        unfold pastOf
        rw [List.foldl_append]
        rfl
    · intro ρ2 ⟨s5, e⟩
      subst e
      rw [nsD_len, List.take_length]
      have hlen : (pastsUp x k).length = k := pastsUp_len x k
      refine r_freeze 4 rfl (r_app rfl (ev_var rfl) (by rw [List.length_map]; unfold sizeLine; omega) ⟨.dat (natD k), .dat (dkI unitD (pastOf (pastsUp x k) (preds x k))), s5, ?_⟩)
      show _ = [_, _, Sl.own none (.lst ((pastsUp x k ++ [pastOf (pastsUp x k) (preds x k)]).map (dkI unitD))), _, _, _]
      rw [List.map_append]
      rfl
  · intro ρ2 ⟨s3, s4, s5, e⟩
    subst e
    rw [List.length_map, List.length_range]
    exact r_retOwn rfl rfl
theorem ok_pasts_by {P : Program} {w : World} {K : PySem.W.Frag} {mg : Str → Option Value} {base : Heap} (T : Txt w K mg) : Def P w K mg base "pasts_by" ["trace"] 6 (sp_pasts_by K) := by
  obtain ⟨f, fd, F, gl⟩ := T.fn_pasts_by
  exact ⟨f, fd, gl, F.kp, FunD.bindsN F (fun _ _ _ _ _ _ us hl => match us, hl with | [_], _ => rfl), fn_f F sc_pasts_by (fun _ => rfl) (t_pasts_by K) (fun cdv A outer s H E hr => (pss_cons (ps_par (by rfl) sc_pasts_by.nd rfl rfl (by decide) rfl rfl (pa_cons (pe_makeD (ok_Ties___init__ T) hr (by decide) (by rfl) (pa_cons (pv 0) pa_nil)) (pa_cons (pe_lst pa_nil) pa_nil)) (by rfl)) (pss_cons (ps_for PassesOwn.never rfl (pi_range1 (by rfl) T.b_range (pa_cons (pe_callB call_len (by rfl) T.b_len (by decide +kernel) (pa_cons (pv 0) pa_nil)) pa_nil)) (pg_name (i := 3) sc_pasts_by.nd rfl (by first | exact Or.inl rfl | exact Or.inr rfl)) (pss_cons (ps_set (i := 4) sc_pasts_by.nd rfl (by first | exact Or.inl rfl | exact Or.inr rfl) pe_dnewK) (pss_cons (ps_for PassesOwn.never rfl (pi_seq (pe_callD (ok_just_before T) hr (by decide) (by rfl) (pa_cons (pv 1) (pa_cons (pv 3) pa_nil)))) (pg_name (i := 5) sc_pasts_by.nd rfl (by first | exact Or.inl rfl | exact Or.inr rfl)) (pss_cons (ps_dput (hu_of hr) (pv 4) (pv 5) pe_bl rfl) (pss_one (ps_expr (pe_upd (pv 4) (pe_ix ix_seq (pv 2) (pv 5) (fun _ _ => rfl)) ⟨rfl, rfl, rfl, rfl⟩))))) (pss_one (ps_expr (pe_bm PySem.F.plainAttrs_list PySem.F.slot_list_append PySem.F.type_list_append mt_append (pv 2) (pa_cons (pv 4) pa_nil))))))) (pss_one (ps_ret (pv 2)))))) (by decide) (fun x hx => run_pasts_by T x hx)⟩
end DL
namespace DL
open PySem PySem.Spec L2
theorem sc_unordered_by : FnScope ["trace", "pasts", "first", "second"] ["trace"] (defScope s_unordered_by) := ⟨rfl, rfl, rfl, by decide +kernel, rfl, by decide +kernel, by decide +kernel⟩
/-- the conflicts that no way orders -/
def unordN (t : Tr) : List (Nat × Nat) := (confs t).filter fun p => !(alook ((pasts t).getD p.2 []) (p.1 : Int)).isSome
abbrev sp_unordered_by (K : PySem.W.Frag) : Sp := spD K (fun x : Tr => [encT x]) (fun x => ValidT x ∧ x.length ≤ 1000) (fun x => .lst ((unordN x).map pairN))
def t_unordered_by (K : PySem.W.Frag) : TS := (tSeq (tAsg (tCall (sp_pasts_by K) [] E0 (tCons (tVar 0) tNil)) (gName 1)) (tRet (tLc (iSeq K (tCall (sp_conflicts_by K) [] E0 (tCons (tVar 0) tNil))) (gTup K 2 (gCons (gName 2) (gCons (gName 3) gNil))) (tTest (tOp (rNotInA K) (tVar 2) (tOp (rIx K) (tVar 1) (tVar 3)))) (tTup (tCons (tVar 2) (tCons (tVar 3) tNil))) [2, 3])))
theorem run_unordered_by {K : PySem.W.Frag} (t : Tr) (hx : ValidT t ∧ t.length ≤ 1000) : Runs K (t_unordered_by K) [.dat (encT t), .un, .un, .un] { nx := fun _ => (.lst ((unordN t).map pairN) : Dt) = .non, rt := fun e _ => e = .lst ((unordN t).map pairN) } := by
  obtain ⟨V, h1⟩ := hx
  refine q_set (ev_call t (ea_cons (ev_var rfl) ea_nil) ⟨h1, V.2.2⟩) (r_ret (en_lcM pairN (confs t) (fun p => !(alook ((pasts t).getD p.2 []) (p.1 : Int)).isSome) pairN (ei_seqL (ev_call t (ea_cons (ev_var rfl) ea_nil) h1)).r (fun p hp => ?_) (confs_sz h1)).ev rfl)
  obtain ⟨a, b, _⟩ := mem_confs.mp hp
  have pl : (pasts t).length = t.length := pastsUp_len t _
  have hg : (pasts t)[p.2]? = some ((pasts t).getD p.2 []) := by
    rw [List.getD_eq_getElem?_getD, List.getElem?_eq_getElem (by omega)]
    rfl
  refine ⟨_, _, fun _ h => h, tg_tup (tgs_cons tg_name (tgs_cons tg_name tgs_nil)) rfl, et_test ((ev_op (ev_var rfl) (ev_op (ev_var rfl) (ev_var rfl) (rv_ixL (f := dkI unitD ((pasts t).getD p.2 [])) ((atI_nat (by rw [List.length_map, pl]; exact b)).trans ?_))) (rv_notind (k := .inl (p.1 : Int)))).is ?_), fun _ => ev_tup (ea_cons (ev_var rfl) (ea_cons (ev_var rfl) ea_nil)) (show 2 ≤ sizeLine by decide)⟩
  · rw [List.getElem?_map, hg]
    rfl
  · rw [dget_I]
    cases alook ((pasts t).getD p.2 []) (p.1 : Int) <;> rfl
theorem ok_unordered_by {P : Program} {w : World} {K : PySem.W.Frag} {mg : Str → Option Value} {base : Heap} (T : Txt w K mg) : Def P w K mg base "unordered_by" ["trace"] 25 (sp_unordered_by K) := by
  obtain ⟨f, fd, F, gl⟩ := T.fn_unordered_by
  exact ⟨f, fd, gl, F.kp, FunD.bindsN F (fun _ _ _ _ _ _ us hl => match us, hl with | [_], _ => rfl), fn_f F sc_unordered_by (fun _ => rfl) (t_unordered_by K) (fun cdv A outer s H E hr => (pss_cons (ps_set (i := 1) sc_unordered_by.nd rfl (by first | exact Or.inl rfl | exact Or.inr rfl) (pe_callD (ok_pasts_by T) hr (by decide) (by rfl) (pa_cons (pv 0) pa_nil))) (pss_one (ps_ret (pe_lc (own := [("first", 2), ("second", 3)]) rfl sc_unordered_by.nd (pi_seq (pe_callD (ok_conflicts_by T) hr (by decide) (by rfl) (pa_cons (pv 0) pa_nil))) (blkOk_by (by kernel_rfl)) (fun _ _ _ _ _ => (pg_tup rfl (pgs_cons (pg_name (i := 2) sc_unordered_by.nd rfl (by first | exact Or.inl rfl | exact Or.inr rfl)) (pgs_cons (pg_name (i := 3) sc_unordered_by.nd rfl (by first | exact Or.inl rfl | exact Or.inr rfl)) pgs_nil)))) (fun _ _ _ _ _ => (pts_one (pt_cmpR (op_notinA (hu65 hr)) (pv 2) (pe_ix ix_seq (pv 1) (pv 3) (fun _ _ => rfl)) (by rfl)))) (fun _ _ _ _ _ => (pe_tup (pa_cons (pv 2) (pa_cons (pv 3) pa_nil))))))))) (by decide) (fun x hx => run_unordered_by x hx)⟩
end DL
namespace DL
open PySem PySem.Spec L2
theorem sc_unordered_pairs : FnScope ["trace"] ["trace"] (defScope s_unordered_pairs) := ⟨rfl, rfl, rfl, by decide +kernel, rfl, by decide +kernel, by decide +kernel⟩
abbrev sp_unordered_pairs (K : PySem.W.Frag) : Sp := spD K (fun x : Tr => [encT x]) (fun x => ValidT x ∧ x.length ≤ 1000) (fun x => .lst ((unordN x).map pairN))
def t_unordered_pairs (K : PySem.W.Frag) : TS := (tSeq (tDrop (tCall (sp_check_trace K) [] E0 (tCons (tVar 0) tNil))) (tRet (tCall (sp_unordered_by K) [] E0 (tCons (tVar 0) tNil))))
theorem run_unordered_pairs {K : PySem.W.Frag} (t : Tr) (hx : ValidT t ∧ t.length ≤ 1000) : Runs K (t_unordered_pairs K) [.dat (encT t)] { nx := fun _ => (.lst ((unordN t).map pairN) : Dt) = .non, rt := fun e _ => e = .lst ((unordN t).map pairN) } :=
  q_drop (ev_call t (ea_cons (ev_var rfl) ea_nil) ⟨hx.1.1, hx.1.2.1⟩) (r_ret (ev_call t (ea_cons (ev_var rfl) ea_nil) hx) rfl)
theorem ok_unordered_pairs {P : Program} {w : World} {K : PySem.W.Frag} {mg : Str → Option Value} {base : Heap} (T : Txt w K mg) : Def P w K mg base "unordered_pairs" ["trace"] 26 (sp_unordered_pairs K) := by
  obtain ⟨f, fd, F, gl⟩ := T.fn_unordered_pairs
  exact ⟨f, fd, gl, F.kp, FunD.bindsN F (fun _ _ _ _ _ _ us hl => match us, hl with | [_], _ => rfl), fn_f F sc_unordered_pairs (fun _ => rfl) (t_unordered_pairs K) (fun cdv A outer s H E hr => (pss_cons (ps_expr (pe_callD (ok_check_trace T) hr (by decide) (by rfl) (pa_cons (pv 0) pa_nil))) (pss_one (ps_ret (pe_callD (ok_unordered_by T) hr (by decide) (by rfl) (pa_cons (pv 0) pa_nil)))))) (by decide) (fun x hx => run_unordered_pairs x hx)⟩
end DL
namespace DL
open PySem PySem.Spec L2
theorem sc_check_event : FnScope ["trace", "event"] ["trace", "event"] (defScope s_check_event) := ⟨rfl, rfl, rfl, by decide +kernel, rfl, by decide +kernel, by decide +kernel⟩
abbrev sp_check_event (K : PySem.W.Frag) : Sp := spD K (fun x : Tr × Nat => [encT x.1, natD x.2]) (fun x => x.2 < x.1.length) (fun x => .non)
def t_check_event (K : PySem.W.Frag) : TS := (tIfS (tNot (tB (tCall (sp_is_index K) [] E0 (tCons (tCB (rLen K) (tCons (tVar 0) tNil)) (tCons (tVar 1) tNil))))) tNever tNext)
theorem run_check_event {K : PySem.W.Frag} (x : Tr × Nat) (hx : x.2 < x.1.length) : Runs K (t_check_event K) [.dat (encT x.1), .dat (natD x.2)] { nx := fun _ => (.non : Dt) = .non, rt := fun e _ => e = .non } := by
  obtain ⟨t, i⟩ := x
  have hx : i < t.length := hx
  refine r_if (b := false) (EvT.is (et_not (et_B (ev_call (((t.map encE).length : Int), natD i) (ea_cons (ev_cb1 (ev_var rfl).rd rc_lenT) (ea_cons (ev_var rfl) ea_nil)) rfl))) ?_) (fun e => by cases e) fun _ => r_next rfl
  show (!(decide ((0 : Int) ≤ (i : Int)) && decide ((i : Int) < ((t.map encE).length : Int)))) = false
  rw [List.length_map, decide_eq_true (by omega), decide_eq_true (by omega)]
  rfl
theorem ok_check_event {P : Program} {w : World} {K : PySem.W.Frag} {mg : Str → Option Value} {base : Heap} (T : Txt w K mg) : Def P w K mg base "check_event" ["trace", "event"] 4 (sp_check_event K) := by
  obtain ⟨f, fd, F, gl⟩ := T.fn_check_event
  exact ⟨f, fd, gl, F.kp, FunD.bindsN F (fun _ _ _ _ _ _ us hl => match us, hl with | [_, _], _ => rfl), fn_f F sc_check_event (fun _ => rfl) (t_check_event K) (fun cdv A outer s H E hr => (pss_one (ps_if (pt_not (pt_val (pe_callD (ok_is_index T) hr (by decide) (by rfl) (pa_cons (pe_callB call_len (by rfl) T.b_len (by decide +kernel) (pa_cons (pv 0) pa_nil)) (pa_cons (pv 1) pa_nil))))) (pss_one ps_never) pss_nil))) (by decide) (fun x hx => run_check_event x hx)⟩
end DL
namespace DL
open PySem PySem.Spec L2
theorem sc_check_two : FnScope ["trace", "first", "second"] ["trace", "first", "second"] (defScope s_check_two) := ⟨rfl, rfl, rfl, by decide +kernel, rfl, by decide +kernel, by decide +kernel⟩
abbrev sp_check_two (K : PySem.W.Frag) : Sp := spD K (fun x : Tr × Nat × Nat => [encT x.1, natD x.2.1, natD x.2.2]) (fun x => (TrWf x.1 ∧ faultOf x.1 = none) ∧ x.2.1 < x.1.length ∧ x.2.2 < x.1.length) (fun _ => .non)
def t_check_two (K : PySem.W.Frag) : TS := (tSeq (tDrop (tCall (sp_check_trace K) [] E0 (tCons (tVar 0) tNil))) (tSeq (tDrop (tCall (sp_check_event K) [] E0 (tCons (tVar 0) (tCons (tVar 1) tNil)))) (tDrop (tCall (sp_check_event K) [] E0 (tCons (tVar 0) (tCons (tVar 2) tNil))))))
theorem run_check_two {K : PySem.W.Frag} (x : Tr × Nat × Nat) (hx : (TrWf x.1 ∧ faultOf x.1 = none) ∧ x.2.1 < x.1.length ∧ x.2.2 < x.1.length) : Runs K (t_check_two K) [.dat (encT x.1), .dat (natD x.2.1), .dat (natD x.2.2)] { nx := fun _ => (.non : Dt) = .non, rt := fun e _ => e = .non } := by
  obtain ⟨t, i, j⟩ := x
  obtain ⟨h0, h1, h2⟩ := hx
  exact q_drop (ev_call t (ea_cons (ev_var rfl) ea_nil) h0) (q_drop (ev_call ((t, i) : Tr × Nat) (ea_cons (ev_var rfl) (ea_cons (ev_var rfl) ea_nil)) h1) (r_drop (ev_call ((t, j) : Tr × Nat) (ea_cons (ev_var rfl) (ea_cons (ev_var rfl) ea_nil)) h2) rfl))
theorem ok_check_two {P : Program} {w : World} {K : PySem.W.Frag} {mg : Str → Option Value} {base : Heap} (T : Txt w K mg) : Def P w K mg base "check_two" ["trace", "first", "second"] 10 (sp_check_two K) := by
  obtain ⟨f, fd, F, gl⟩ := T.fn_check_two
  exact ⟨f, fd, gl, F.kp, FunD.bindsN F (fun _ _ _ _ _ _ us hl => match us, hl with | [_, _, _], _ => rfl), fn_f F sc_check_two (fun _ => rfl) (t_check_two K) (fun cdv A outer s H E hr => (pss_cons (ps_expr (pe_callD (ok_check_trace T) hr (by decide) (by rfl) (pa_cons (pv 0) pa_nil))) (pss_cons (ps_expr (pe_callD (ok_check_event T) hr (by decide) (by rfl) (pa_cons (pv 0) (pa_cons (pv 1) pa_nil)))) (pss_one (ps_expr (pe_callD (ok_check_event T) hr (by decide) (by rfl) (pa_cons (pv 0) (pa_cons (pv 2) pa_nil)))))))) (by decide) (fun x hx => run_check_two x hx)⟩
end DL
namespace DL
open PySem PySem.Spec L2
theorem sc_is_race : FnScope ["trace", "first", "second"] ["trace", "first", "second"] (defScope s_is_race) := ⟨rfl, rfl, rfl, by decide +kernel, rfl, by decide +kernel, by decide +kernel⟩
abbrev sp_is_race (K : PySem.W.Frag) : Sp := spD K (fun x : Tr × Nat × Nat => [encT x.1, natD x.2.1, natD x.2.2]) (fun x => ValidT x.1 ∧ x.1.length ≤ 1000 ∧ x.2.1 < x.1.length ∧ x.2.2 < x.1.length) (fun x => .bl (raceB x.1 x.2.1 x.2.2))
def t_is_race (K : PySem.W.Frag) : TS := (tSeq (tDrop (tCall (sp_check_two K) [] E0 (tCons (tVar 0) (tCons (tVar 1) (tCons (tVar 2) tNil))))) (tRet (tCall (sp_race_by K) [] E0 (tCons (tVar 0) (tCons (tVar 1) (tCons (tVar 2) tNil))))))
theorem run_is_race {K : PySem.W.Frag} (x : Tr × Nat × Nat) (hx : ValidT x.1 ∧ x.1.length ≤ 1000 ∧ x.2.1 < x.1.length ∧ x.2.2 < x.1.length) : Runs K (t_is_race K) [.dat (encT x.1), .dat (natD x.2.1), .dat (natD x.2.2)] { nx := fun _ => (.bl (raceB x.1 x.2.1 x.2.2) : Dt) = .non, rt := fun e _ => e = .bl (raceB x.1 x.2.1 x.2.2) } :=
  q_drop (ev_call x (ea_cons (ev_var rfl) (ea_cons (ev_var rfl) (ea_cons (ev_var rfl) ea_nil))) ⟨⟨hx.1.1, hx.1.2.1⟩, hx.2.2⟩) (r_ret (ev_call x (ea_cons (ev_var rfl) (ea_cons (ev_var rfl) (ea_cons (ev_var rfl) ea_nil))) hx) rfl)
theorem ok_is_race {P : Program} {w : World} {K : PySem.W.Frag} {mg : Str → Option Value} {base : Heap} (T : Txt w K mg) : Def P w K mg base "is_race" ["trace", "first", "second"] 24 (sp_is_race K) := by
  obtain ⟨f, fd, F, gl⟩ := T.fn_is_race
  exact ⟨f, fd, gl, F.kp, FunD.bindsN F (fun _ _ _ _ _ _ us hl => match us, hl with | [_, _, _], _ => rfl), fn_f F sc_is_race (fun _ => rfl) (t_is_race K) (fun cdv A outer s H E hr => (pss_cons (ps_expr (pe_callD (ok_check_two T) hr (by decide) (by rfl) (pa_cons (pv 0) (pa_cons (pv 1) (pa_cons (pv 2) pa_nil))))) (pss_one (ps_ret (pe_callD (ok_race_by T) hr (by decide) (by rfl) (pa_cons (pv 0) (pa_cons (pv 1) (pa_cons (pv 2) pa_nil)))))))) (by decide) (fun x hx => run_is_race x hx)⟩
end DL
namespace DL
open PySem PySem.Spec L2
theorem sc_check_number : FnScope ["number"] ["number"] (defScope s_check_number) := ⟨rfl, rfl, rfl, by decide +kernel, rfl, by decide +kernel, by decide +kernel⟩
abbrev sp_check_number (K : PySem.W.Frag) : Sp := spD K (fun x : Nat => [natD x]) (fun _ => True) (fun _ => .non)
def t_check_number (K : PySem.W.Frag) : TS := (tIfS (tNot (tB (tCall (sp_is_from K) [] E0 (tCons (tC (.int 0)) (tCons (tVar 0) tNil))))) tNever tNext)
theorem run_check_number {K : PySem.W.Frag} (x : Nat) (hx : True) : Runs K (t_check_number K) [.dat (natD x)] { nx := fun _ => (.non : Dt) = .non, rt := fun e _ => e = .non } := by
  refine r_if (b := false) (EvT.is (et_not (et_B (ev_call ((0, natD x) : Int × Dt) (ea_cons ev_int (ea_cons (ev_var rfl) ea_nil)) rfl))) ?_) (fun e => by cases e) fun _ => r_next rfl
  show (!(decide ((0 : Int) ≤ (x : Int)))) = false
  rw [decide_eq_true (by omega)]
  rfl
theorem ok_check_number {P : Program} {w : World} {K : PySem.W.Frag} {mg : Str → Option Value} {base : Heap} (T : Txt w K mg) : Def P w K mg base "check_number" ["number"] 3 (sp_check_number K) := by
  obtain ⟨f, fd, F, gl⟩ := T.fn_check_number
  exact ⟨f, fd, gl, F.kp, FunD.bindsN F (fun _ _ _ _ _ _ us hl => match us, hl with | [_], _ => rfl), fn_f F sc_check_number (fun _ => rfl) (t_check_number K) (fun cdv A outer s H E hr => (pss_one (ps_if (pt_not (pt_val (pe_callD (ok_is_from T) hr (by decide) (by rfl) (pa_cons pe_int (pa_cons (pv 0) pa_nil))))) (pss_one ps_never) pss_nil))) (by decide) (fun x hx => run_check_number x hx)⟩
end DL
namespace DL
open PySem PySem.Spec L2
theorem sc_beginning : FnScope ["trace", "number"] ["trace", "number"] (defScope s_beginning) := ⟨rfl, rfl, rfl, by decide +kernel, rfl, by decide +kernel, by decide +kernel⟩
abbrev sp_beginning (K : PySem.W.Frag) : Sp := spD K (fun x : Tr × Nat => [encT x.1, natD x.2]) (fun x => TrWf x.1 ∧ faultOf x.1 = none) (fun x => encT (x.1.take x.2))
def t_beginning (K : PySem.W.Frag) : TS := (tSeq (tDrop (tCall (sp_check_trace K) [] E0 (tCons (tVar 0) tNil))) (tSeq (tDrop (tCall (sp_check_number K) [] E0 (tCons (tVar 1) tNil))) (tRet (tSl (rSlX K) (tVar 0) tNoPart (tPart (tVar 1))))))
theorem run_beginning {K : PySem.W.Frag} (x : Tr × Nat) (hx : TrWf x.1 ∧ faultOf x.1 = none) : Runs K (t_beginning K) [.dat (encT x.1), .dat (natD x.2)] { nx := fun _ => (encT (x.1.take x.2) : Dt) = .non, rt := fun e _ => e = encT (x.1.take x.2) } := by
  obtain ⟨t, n⟩ := x
  refine q_drop (ev_call t (ea_cons (ev_var rfl) ea_nil) hx) (q_drop (ev_call n (ea_cons (ev_var rfl) ea_nil) trivial) (r_ret ((ev_slT (ev_var rfl) eo_no (eo_part (ev_var rfl))).is ?_) rfl))
  rw [cutD_to, encT_take]
  rfl
theorem ok_beginning {P : Program} {w : World} {K : PySem.W.Frag} {mg : Str → Option Value} {base : Heap} (T : Txt w K mg) : Def P w K mg base "beginning" ["trace", "number"] 10 (sp_beginning K) := by
  obtain ⟨f, fd, F, gl⟩ := T.fn_beginning
  exact ⟨f, fd, gl, F.kp, FunD.bindsN F (fun _ _ _ _ _ _ us hl => match us, hl with | [_, _], _ => rfl), fn_f F sc_beginning (fun _ => rfl) (t_beginning K) (fun cdv A outer s H E hr => (pss_cons (ps_expr (pe_callD (ok_check_trace T) hr (by decide) (by rfl) (pa_cons (pv 0) pa_nil))) (pss_cons (ps_expr (pe_callD (ok_check_number T) hr (by decide) (by rfl) (pa_cons (pv 1) pa_nil))) (pss_one (ps_ret (pe_slice sl_any (pv 0) po_none (po_some (pv 1)))))))) (by decide) (fun x hx => run_beginning x hx)⟩
end DL
namespace DL
open PySem PySem.Spec L2
theorem sc__law_same : FnScope ["got", "due", "k"] ["got", "due"] (defScope s__law_same) := ⟨rfl, rfl, rfl, by decide +kernel, rfl, by decide +kernel, by decide +kernel⟩
/-- data without dicts, of at most so many layers -/
inductive Smp : Nat → Dt → Prop
  | non (n : Nat) : Smp n .non
  | bl (n : Nat) (b : Bool) : Smp n (.bl b)
  | int (n : Nat) (i : Int) : Smp n (.int i)
  | str (n : Nat) (s : Str) : Smp n (.str s)
  | tup (n : Nat) (ds : List Dt) : ds.length ≤ 100000 → (∀ d ∈ ds, Smp n d) → Smp (n + 1) (.tup ds)
  | lst (n : Nat) (ds : List Dt) : ds.length ≤ 100000 → (∀ d ∈ ds, Smp n d) → Smp (n + 1) (.lst ds)
theorem Smp.plain {n : Nat} {d : Dt} (h : Smp n d) : plainD d = true := by cases h <;> rfl
abbrev spS (K : PySem.W.Frag) (n : Nat) : Sp := spD K (fun d : Dt => [d, d]) (Smp n) (fun _ => .bl true)
abbrev sp__law_same (K : PySem.W.Frag) : Sp := spS K 8
def t__law_same (sp : Sp) (K : PySem.W.Frag) : TS := (tSeq (tIfS (tOr (tB (tCB (rIsi K) (tCons (tVar 1) (tCons (tC (.ty "tuple")) tNil)))) (tB (tCB (rIsi K) (tCons (tVar 1) (tCons (tC (.ty "list")) tNil))))) (tSeq (tIfS (tOr (tTest (tOp (rNeA K) (tCB (rIsi K) (tCons (tVar 1) (tCons (tC (.ty "tuple")) tNil))) (tCB (rIsi K) (tCons (tVar 0) (tCons (tC (.ty "tuple")) tNil))))) (tTest (tOp (rNeA K) (tCB (rIsi K) (tCons (tVar 1) (tCons (tC (.ty "list")) tNil))) (tCB (rIsi K) (tCons (tVar 0) (tCons (tC (.ty "list")) tNil)))))) (tRet (tC (.bl false))) tNext) (tRet (tAndV (tOp (rEqA K) (tCB (rLen K) (tCons (tVar 0) tNil)) (tCB (rLen K) (tCons (tVar 1) tNil))) (tCB (rAll K) (tCons (tLc (iRng1 (tCons (tCB (rLen K) (tCons (tVar 1) tNil)) tNil)) (gName 2) tYes (tCall sp [] E0 (tCons (tOp (rIx K) (tVar 0) (tVar 2)) (tCons (tOp (rIx K) (tVar 1) (tVar 2)) tNil))) [2]) tNil))))) tNext) (tSeq (tIfS (tTest (tOp (fun x y H Q => y = .non ∧ Q (.bl (decide (x = .non))) H) (tVar 1) (tC .non))) (tRet (tOp (fun x y H Q => y = .non ∧ Q (.bl (decide (x = .non))) H) (tVar 0) (tC .non))) tNext) (tSeq (tIfS (tB (tCB (rIsi K) (tCons (tVar 1) (tCons (tC (.ty "bool")) tNil)))) (tRet (tAndV (tCB (rIsi K) (tCons (tVar 0) (tCons (tC (.ty "bool")) tNil))) (tOp (rEqA K) (tVar 0) (tVar 1)))) tNext) (tSeq (tIfS (tOr (tB (tCB (rIsi K) (tCons (tVar 0) (tCons (tC (.ty "bool")) tNil)))) (tOr (tTest (tOp (rNeA K) (tCB (rIsi K) (tCons (tVar 0) (tCons (tC (.ty "int")) tNil))) (tCB (rIsi K) (tCons (tVar 1) (tCons (tC (.ty "int")) tNil))))) (tTest (tOp (rNeA K) (tCB (rIsi K) (tCons (tVar 0) (tCons (tC (.ty "str")) tNil))) (tCB (rIsi K) (tCons (tVar 1) (tCons (tC (.ty "str")) tNil))))))) (tRet (tC (.bl false))) tNext) (tRet (tOp (rEqA K) (tVar 0) (tVar 1)))))))
theorem same_go {K : PySem.W.Frag} {n : Nat} {ds : List Dt} {d : Dt} (hm : Members d ds) (hp : plainD d = true) (hl : ds.length ≤ 100000) (hln : RC1 K (rLen K) d (.int (ds.length : Int))) (hx : ∀ (i : Nat), i < ds.length → RV K (rIx K) d (natD i) (ds.getD i .non)) (hs : ∀ e ∈ ds, Smp n e) :
    Ev K (tAndV (tOp (rEqA K) (tCB (rLen K) (tCons (tVar 0) tNil)) (tCB (rLen K) (tCons (tVar 1) tNil))) (tCB (rAll K) (tCons (tLc (iRng1 (tCons (tCB (rLen K) (tCons (tVar 1) tNil)) tNil)) (gName 2) tYes (tCall (spS K n) [] E0 (tCons (tOp (rIx K) (tVar 0) (tVar 2)) (tCons (tOp (rIx K) (tVar 1) (tVar 2)) tNil))) [2]) tNil))) [.dat d, .dat d, .un] (.bl true) := by
  refine Ev.is (ev_andV (b := true) (ev_op (ev_cb1 (ev_var rfl).rd hln) (ev_cb1 (ev_var rfl).rd hln) rv_eqAI) fun _ => (ev_cb1 (Ev.rd (Ev.is (en_lcM natD (List.range ds.length) (fun _ => true) (fun _ => .bl true) (EvI.r ((ei_rng1 (n := (ds.length : Int)) (ea_cons (ev_cb1 (ev_var rfl).rd hln) ea_nil) (by omega)).is ?_)) (fun i hi => ?_) (by rw [List.length_range]; unfold sizeLine; omega)).ev ?_)) (rc_all (bs := (List.range ds.length).map fun _ => true))).is ?_) ?_
  · rw [show ((ds.length : Int)).toNat = ds.length by omega]
    exact nums_range0 _
  · have hi := List.mem_range.mp hi
    refine ⟨_, _, fun _ h => h, tg_name, et_yes, fun _ => ev_call (ds.getD i .non) (ea_cons (ev_op (ev_var rfl) (ev_var rfl) (hx i hi)) (ea_cons (ev_op (ev_var rfl) (ev_var rfl) (hx i hi)) ea_nil)) (hs _ ?_)⟩
    rw [List.getD_eq_getElem?_getD, List.getElem?_eq_getElem hi]
    exact List.getElem_mem hi
  · rw [made_all, List.map_map]
    rfl
  · rw [List.all_map]
    exact congrArg Dt.bl (List.all_eq_true.mpr fun _ _ => rfl)
  · rw [decide_eq_true rfl]
    rfl
theorem get_getD {ds : List Dt} {i : Nat} (h : i < ds.length) : ds[i]? = some (ds.getD i .non) := by
  rw [List.getD_eq_getElem?_getD, List.getElem?_eq_getElem h]
  rfl
theorem run__law_same {K : PySem.W.Frag} (n : Nat) (sp : Sp) (hsp : ∀ m, n = m + 1 → sp = spS K m) (d : Dt) (h : Smp n d) : Runs K (t__law_same sp K) [.dat d, .dat d, .un] { nx := fun _ => Dt.bl true = .non, rt := fun e _ => e = .bl true } := by
  have hp := h.plain
  have isT : ∀ (k : Nat), k < 2 → Ev K (tCB (rIsi K) (tCons (tVar k) (tCons (tC (.ty "tuple")) tNil))) [.dat d, .dat d, .un] (.bl (isTupD d)) := fun k hk => ev_isi (match k, hk with | 0, _ => (ev_var rfl).rd | 1, _ => (ev_var rfl).rd) hp (kit_tuple hp)
  have isL : ∀ (k : Nat), k < 2 → Ev K (tCB (rIsi K) (tCons (tVar k) (tCons (tC (.ty "list")) tNil))) [.dat d, .dat d, .un] (.bl (isLstD d)) := fun k hk => ev_isi (match k, hk with | 0, _ => (ev_var rfl).rd | 1, _ => (ev_var rfl).rd) hp (kit_list hp)
  have isB : ∀ (k : Nat), k < 2 → Ev K (tCB (rIsi K) (tCons (tVar k) (tCons (tC (.ty "bool")) tNil))) [.dat d, .dat d, .un] (.bl (isBlD d)) := fun k hk => ev_isi (match k, hk with | 0, _ => (ev_var rfl).rd | 1, _ => (ev_var rfl).rd) hp (kit_bool hp)
  have isI : ∀ (k : Nat), k < 2 → Ev K (tCB (rIsi K) (tCons (tVar k) (tCons (tC (.ty "int")) tNil))) [.dat d, .dat d, .un] (.bl (isIntD d || isBlD d)) := fun k hk => ev_isi (match k, hk with | 0, _ => (ev_var rfl).rd | 1, _ => (ev_var rfl).rd) hp (kit_int hp)
  have isS : ∀ (k : Nat), k < 2 → Ev K (tCB (rIsi K) (tCons (tVar k) (tCons (tC (.ty "str")) tNil))) [.dat d, .dat d, .un] (.bl (isStrD d)) := fun k hk => ev_isi (match k, hk with | 0, _ => (ev_var rfl).rd | 1, _ => (ev_var rfl).rd) hp (kit_str hp)
  have kind : EvT K (tOr (tB (tCB (rIsi K) (tCons (tVar 1) (tCons (tC (.ty "tuple")) tNil)))) (tB (tCB (rIsi K) (tCons (tVar 1) (tCons (tC (.ty "list")) tNil))))) [.dat d, .dat d, .un] (isTupD d || isLstD d) := et_or (et_B (isT 1 (by decide))) fun _ => et_B (isL 1 (by decide))
  have same2 : EvT K (tOr (tTest (tOp (rNeA K) (tCB (rIsi K) (tCons (tVar 1) (tCons (tC (.ty "tuple")) tNil))) (tCB (rIsi K) (tCons (tVar 0) (tCons (tC (.ty "tuple")) tNil))))) (tTest (tOp (rNeA K) (tCB (rIsi K) (tCons (tVar 1) (tCons (tC (.ty "list")) tNil))) (tCB (rIsi K) (tCons (tVar 0) (tCons (tC (.ty "list")) tNil)))))) [.dat d, .dat d, .un] false := by
    refine EvT.is (et_or (et_test (ev_op (isT 1 (by decide)) (isT 0 (by decide)) rv_neAB)) fun _ => et_test (ev_op (isL 1 (by decide)) (isL 0 (by decide)) rv_neAB)) ?_
    rw [decide_eq_true rfl, decide_eq_true rfl]
    rfl
  refine q_when kind (fun e => ?_) fun e => ?_
  · refine q_when same2 (fun e => by cases e) fun _ => ?_
    cases h with
    | tup m ds hl hs =>
      rw [hsp m rfl]
      exact r_ret (same_go (.tup ds) rfl hl rc_lenT (fun i hi => rv_ixT ((atI_nat hi).trans (get_getD hi))) hs) rfl
    | lst m ds hl hs =>
      rw [hsp m rfl]
      exact r_ret (same_go (.lst ds) rfl hl rc_len (fun i hi => rv_ixL ((atI_nat hi).trans (get_getD hi))) hs) rfl
    | _ => cases e
  · refine q_when (b := isNon d) (et_test (ev_op (ev_var rfl) ev_non rv_isN)) (fun e2 => r_ret ((ev_op (ev_var rfl) ev_non rv_isN).is (congrArg Dt.bl e2)) rfl) fun e2 => ?_
    refine q_when (et_B (isB 1 (by decide))) (fun e3 => ?_) fun e3 => ?_
    · cases h with
      | bl _ b => exact r_ret (Ev.is (ev_andV (isB 0 (by decide)) fun _ => ev_op (ev_var rfl) (ev_var rfl) rv_eqAB) (by rw [decide_eq_true rfl]; rfl)) rfl
      | _ => cases e3
    · refine q_when (b := false) (EvT.is (et_or (et_B (isB 0 (by decide))) fun _ => et_or (et_test (ev_op (isI 0 (by decide)) (isI 1 (by decide)) rv_neAB)) fun _ => et_test (ev_op (isS 0 (by decide)) (isS 1 (by decide)) rv_neAB)) ?_) (fun e => by cases e) fun _ => ?_
      · rw [e3, decide_eq_true rfl, decide_eq_true rfl]
        rfl
      · cases h with
        | int _ i => exact r_ret ((ev_op (ev_var rfl) (ev_var rfl) rv_eqAI).is (congrArg Dt.bl (decide_eq_true rfl))) rfl
        | str _ i => exact r_ret ((ev_op (ev_var rfl) (ev_var rfl) rv_eqAS).is (congrArg Dt.bl (decide_eq_true rfl))) rfl
        | non _ => cases e2
        | bl _ _ => cases e3
        | tup _ _ _ _ => cases e
        | lst _ _ _ _ => cases e
def spNo : Sp := fun _ _ _ _ => False
theorem ok_no {P : Program} {w : World} {K : PySem.W.Frag} {mg : Str → Option Value} {base : Heap} (T : Txt w K mg) : Def P w K mg base "_law_same" ["got", "due"] 1 spNo := by
  obtain ⟨f, fd, F, gl⟩ := T.fn__law_same
  exact ⟨f, fd, gl, F.kp, FunD.bindsN F (fun _ _ _ _ _ _ us hl => match us, hl with | [_, _], _ => rfl), FunD.ok (k := 0) F sc__law_same (fun vs H Q E h => False.elim h) (fun cdv A outer s H vs Q E hr h => False.elim h)⟩
theorem same_def {P : Program} {w : World} {K : PySem.W.Frag} {mg : Str → Option Value} {base : Heap} (T : Txt w K mg) (n k : Nat) (sp : Sp) (hsp : ∀ m, n = m + 1 → sp = spS K m) (ih : Def P w K mg base "_law_same" ["got", "due"] k sp) : Def P w K mg base "_law_same" ["got", "due"] (k + 1) (spS K n) := by
  obtain ⟨f, fd, F, gl⟩ := T.fn__law_same
  exact ⟨f, fd, gl, F.kp, FunD.bindsN F (fun _ _ _ _ _ _ us hl => match us, hl with | [_, _], _ => rfl), fn_f F sc__law_same (fun _ => rfl) (t__law_same sp K) (fun cdv A outer s H E hr => (pss_cons (ps_if (PW.pt (pw_or (pt_val (pe_callB call_isi (by rfl) T.b_isinstance (by decide +kernel) (pa_cons (pv 1) (pa_cons (pe_bltn (v := .ty "tuple") (by rfl) T.b_tuple (by decide +kernel) rfl) pa_nil)))) (pw_or1 (pt_val (pe_callB call_isi (by rfl) T.b_isinstance (by decide +kernel) (pa_cons (pv 1) (pa_cons (pe_bltn (v := .ty "list") (by rfl) T.b_list (by decide +kernel) rfl) pa_nil))))))) (pss_cons (ps_if (PW.pt (pw_or (pt_cmpR (op_neA (hu65 hr)) (pe_callB call_isi (by rfl) T.b_isinstance (by decide +kernel) (pa_cons (pv 1) (pa_cons (pe_bltn (v := .ty "tuple") (by rfl) T.b_tuple (by decide +kernel) rfl) pa_nil))) (pe_callB call_isi (by rfl) T.b_isinstance (by decide +kernel) (pa_cons (pv 0) (pa_cons (pe_bltn (v := .ty "tuple") (by rfl) T.b_tuple (by decide +kernel) rfl) pa_nil))) (nomark _)) (pw_or1 (pt_cmpR (op_neA (hu65 hr)) (pe_callB call_isi (by rfl) T.b_isinstance (by decide +kernel) (pa_cons (pv 1) (pa_cons (pe_bltn (v := .ty "list") (by rfl) T.b_list (by decide +kernel) rfl) pa_nil))) (pe_callB call_isi (by rfl) T.b_isinstance (by decide +kernel) (pa_cons (pv 0) (pa_cons (pe_bltn (v := .ty "list") (by rfl) T.b_list (by decide +kernel) rfl) pa_nil))) (nomark _))))) (pss_one (ps_ret pe_bl)) pss_nil) (pss_one (ps_ret (pe_and (pe_cmpR (op_eqA (hu65 hr)) (pe_callB call_len (by rfl) T.b_len (by decide +kernel) (pa_cons (pv 0) pa_nil)) (pe_callB call_len (by rfl) T.b_len (by decide +kernel) (pa_cons (pv 1) pa_nil)) (nomark _)) (pe_one (pe_callB (cr_all rfl) (by rfl) T.b_all (by decide +kernel) (pa_cons (pe_lc (own := [("k", 2)]) rfl sc__law_same.nd (pi_range1 (by rfl) T.b_range (pa_cons (pe_callB call_len (by rfl) T.b_len (by decide +kernel) (pa_cons (pv 1) pa_nil)) pa_nil)) (blkOk_by (by kernel_rfl)) (fun _ _ _ _ _ => (pg_name (i := 2) sc__law_same.nd rfl (by first | exact Or.inl rfl | exact Or.inr rfl))) (fun _ _ _ _ _ => pts_nil) (fun _ _ _ _ _ => (pe_callD ih hr (Nat.le_refl _) (by rfl) (pa_cons (pe_ix ix_seq (pv 0) (pv 2) (fun _ _ => rfl)) (pa_cons (pe_ix ix_seq (pv 1) (pv 2) (fun _ _ => rfl)) pa_nil))))) pa_nil))))))) pss_nil) (pss_cons (ps_if (pt_cmpR op_isN (pv 1) pe_non (nomark _)) (pss_one (ps_ret (pe_cmpR op_isN (pv 0) pe_non (nomark _)))) pss_nil) (pss_cons (ps_if (pt_val (pe_callB call_isi (by rfl) T.b_isinstance (by decide +kernel) (pa_cons (pv 1) (pa_cons (pe_bltn (v := .ty "bool") (by rfl) T.b_bool (by decide +kernel) rfl) pa_nil)))) (pss_one (ps_ret (pe_and (pe_callB call_isi (by rfl) T.b_isinstance (by decide +kernel) (pa_cons (pv 0) (pa_cons (pe_bltn (v := .ty "bool") (by rfl) T.b_bool (by decide +kernel) rfl) pa_nil))) (pe_one (pe_cmpR (op_eqA (hu65 hr)) (pv 0) (pv 1) (nomark _)))))) pss_nil) (pss_cons (ps_if (PW.pt (pw_or (pt_val (pe_callB call_isi (by rfl) T.b_isinstance (by decide +kernel) (pa_cons (pv 0) (pa_cons (pe_bltn (v := .ty "bool") (by rfl) T.b_bool (by decide +kernel) rfl) pa_nil)))) (pw_or (pt_cmpR (op_neA (hu65 hr)) (pe_callB call_isi (by rfl) T.b_isinstance (by decide +kernel) (pa_cons (pv 0) (pa_cons (pe_bltn (v := .ty "int") (by rfl) T.b_int (by decide +kernel) rfl) pa_nil))) (pe_callB call_isi (by rfl) T.b_isinstance (by decide +kernel) (pa_cons (pv 1) (pa_cons (pe_bltn (v := .ty "int") (by rfl) T.b_int (by decide +kernel) rfl) pa_nil))) (nomark _)) (pw_or1 (pt_cmpR (op_neA (hu65 hr)) (pe_callB call_isi (by rfl) T.b_isinstance (by decide +kernel) (pa_cons (pv 0) (pa_cons (pe_bltn (v := .ty "str") (by rfl) T.b_str (by decide +kernel) rfl) pa_nil))) (pe_callB call_isi (by rfl) T.b_isinstance (by decide +kernel) (pa_cons (pv 1) (pa_cons (pe_bltn (v := .ty "str") (by rfl) T.b_str (by decide +kernel) rfl) pa_nil))) (nomark _)))))) (pss_one (ps_ret pe_bl)) pss_nil) (pss_one (ps_ret (pe_cmpR (op_eqA (hu65 hr)) (pv 0) (pv 1) (nomark _))))))))) (by decide) (fun d hx => run__law_same n sp hsp d hx)⟩
theorem same_all {P : Program} {w : World} {K : PySem.W.Frag} {mg : Str → Option Value} {base : Heap} (T : Txt w K mg) : ∀ n, Def P w K mg base "_law_same" ["got", "due"] (n + 2) (spS K n)
  | 0 => same_def T 0 1 spNo (fun m hm => by cases hm) (ok_no T)
  | n + 1 => same_def T (n + 1) (n + 2) (spS K n) (fun m hm => by cases hm; rfl) (same_all T n)
theorem ok__law_same {P : Program} {w : World} {K : PySem.W.Frag} {mg : Str → Option Value} {base : Heap} (T : Txt w K mg) : Def P w K mg base "_law_same" ["got", "due"] 10 (sp__law_same K) := same_all T 8
end DL
namespace DL
open PySem PySem.Spec L2
theorem sc__law_conflict : FnScope ["events", "i", "j", "one", "other"] ["events", "i", "j"] (defScope s__law_conflict) := ⟨rfl, rfl, rfl, by decide +kernel, rfl, by decide +kernel, by decide +kernel⟩
abbrev sp__law_conflict (K : PySem.W.Frag) : Sp := spD K (fun x : Tr × Nat × Nat => [encT x.1, natD x.2.1, natD x.2.2]) (fun x => x.2.1 < x.1.length ∧ x.2.2 < x.1.length) (fun x => .bl (confl x.1 x.2.1 x.2.2))
def t__law_conflict (K : PySem.W.Frag) : TS := (tSeq (tPar 3 4 (tCons (tOp (rIx K) (tVar 0) (tVar 1)) (tCons (tOp (rIx K) (tVar 0) (tVar 2)) tNil))) (tSeq (tIfS (tOr (tTest (tOp (rEqA K) (tOp (rIx K) (tVar 3) (tC (.int 0))) (tOp (rIx K) (tVar 4) (tC (.int 0))))) (tTest (tOp (rNeA K) (tOp (rIx K) (tVar 3) (tC (.int 2))) (tOp (rIx K) (tVar 4) (tC (.int 2)))))) (tRet (tC (.bl false))) tNext) (tRet (tAndV (tOp (rInA K) (tOp (rIx K) (tVar 3) (tC (.int 1))) (tTup (tCons (tC (.str "read")) (tCons (tC (.str "write")) tNil)))) (tAndV (tOp (rInA K) (tOp (rIx K) (tVar 4) (tC (.int 1))) (tTup (tCons (tC (.str "read")) (tCons (tC (.str "write")) tNil)))) (tOp (rInA K) (tC (.str "write")) (tTup (tCons (tOp (rIx K) (tVar 3) (tC (.int 1))) (tCons (tOp (rIx K) (tVar 4) (tC (.int 1))) tNil)))))))))
theorem run__law_conflict {K : PySem.W.Frag} (x : Tr × Nat × Nat) (hx : x.2.1 < x.1.length ∧ x.2.2 < x.1.length) : Runs K (t__law_conflict K) [.dat (encT x.1), .dat (natD x.2.1), .dat (natD x.2.2), .un, .un] { nx := fun _ => (.bl (confl x.1 x.2.1 x.2.2) : Dt) = .non, rt := fun e _ => e = .bl (confl x.1 x.2.1 x.2.2) } := by
  obtain ⟨t, i, j⟩ := x
  obtain ⟨h1, h2⟩ := hx
  have ac : ∀ m : Nm, inF (.str m.s) [.str "read", .str "write"] = m.acc := fun m => by cases m <;> rfl
  have acE : ∀ {ρ : List Sl} {te : TE} {m : Nm}, Ev K te ρ (.str m.s) → Ev K (tOp (rInA K) te (tTup (tCons (tC (.str "read")) (tCons (tC (.str "write")) tNil)))) ρ (.bl m.acc) := fun {ρ te m} h =>
    (ev_op h (ev_tup (ea_cons ev_str (ea_cons ev_str ea_nil)) (show 2 ≤ sizeLine by decide)) (rv_in (.tup _) rfl rfl)).is (congrArg Dt.bl (ac m))
  refine q_par (ea_cons (ev_at (ev_var rfl) (ev_var rfl) h1) (ea_cons (ev_at (ev_var rfl) (ev_var rfl) h2) ea_nil)) ?_
  refine q_when (et_or (et_test (ev_op (ev_th (ev_var rfl)) (ev_th (ev_var rfl)) rv_eqAI)) fun _ => et_test (ev_op (ev_tg (ev_var rfl)) (ev_tg (ev_var rfl)) rv_neAI)) (fun e => r_ret ev_bl ?_) fun e =>
    r_ret (ev_andV (acE (ev_nm (ev_var rfl))) fun _ => ev_andV (acE (ev_nm (ev_var rfl))) fun _ =>
      (ev_op ev_str (ev_tup (ea_cons (ev_nm (ev_var rfl)) (ea_cons (ev_nm (ev_var rfl)) ea_nil)) (show 2 ≤ sizeLine by decide)) (rv_in (.tup _) rfl rfl)).is (congrArg Dt.bl (inF_wr _ _))) ?_
  · show Dt.bl false = .bl (confl t i j)
    unfold confl
    rw [e]
    rfl
  · show Dt.bl _ = .bl (confl t i j)
    unfold confl
    rw [e]
    rfl
theorem ok__law_conflict {P : Program} {w : World} {K : PySem.W.Frag} {mg : Str → Option Value} {base : Heap} (T : Txt w K mg) : Def P w K mg base "_law_conflict" ["events", "i", "j"] 2 (sp__law_conflict K) := by
  obtain ⟨f, fd, F, gl⟩ := T.fn__law_conflict
  exact ⟨f, fd, gl, F.kp, FunD.bindsN F (fun _ _ _ _ _ _ us hl => match us, hl with | [_, _, _], _ => rfl), fn_f F sc__law_conflict (fun _ => rfl) (t__law_conflict K) (fun cdv A outer s H E hr => (pss_cons (ps_par (by rfl) sc__law_conflict.nd rfl rfl (by decide) rfl rfl (pa_cons (pe_ix ix_seq (pv 0) (pv 1) (fun _ _ => rfl)) (pa_cons (pe_ix ix_seq (pv 0) (pv 2) (fun _ _ => rfl)) pa_nil)) (by rfl)) (pss_cons (ps_if (PW.pt (pw_or (pt_cmpR (op_eqA (hu65 hr)) (pe_ix ix_seq (pv 3) pe_int (fun _ _ => rfl)) (pe_ix ix_seq (pv 4) pe_int (fun _ _ => rfl)) (nomark _)) (pw_or1 (pt_cmpR (op_neA (hu65 hr)) (pe_ix ix_seq (pv 3) pe_int (fun _ _ => rfl)) (pe_ix ix_seq (pv 4) pe_int (fun _ _ => rfl)) (nomark _))))) (pss_one (ps_ret pe_bl)) pss_nil) (pss_one (ps_ret (pe_and (pe_cmpR (op_inA (hu65 hr)) (pe_ix ix_seq (pv 3) pe_int (fun _ _ => rfl)) (pe_tup (pa_cons pe_str (pa_cons pe_str pa_nil))) (by rfl)) (pe_and (pe_cmpR (op_inA (hu65 hr)) (pe_ix ix_seq (pv 4) pe_int (fun _ _ => rfl)) (pe_tup (pa_cons pe_str (pa_cons pe_str pa_nil))) (by rfl)) (pe_one (pe_cmpR (op_inA (hu65 hr)) pe_str (pe_tup (pa_cons (pe_ix ix_seq (pv 3) pe_int (fun _ _ => rfl)) (pa_cons (pe_ix ix_seq (pv 4) pe_int (fun _ _ => rfl)) pa_nil))) (by rfl)))))))))) (by decide) (fun x hx => run__law_conflict x hx)⟩
end DL
namespace DL
open PySem PySem.Spec L2
/-! the first unordered conflicts are races; the races of a beginning -/
section
variable {t : Tr}
theorem mem_unord {p : Nat × Nat} : p ∈ unordN t ↔ p ∈ confs t ∧ ¬ Bef t p.1 p.2 := by
  unfold unordN
  rw [List.mem_filter]
  constructor
  · rintro ⟨h1, h2⟩
    obtain ⟨a, b, c⟩ := mem_confs.mp h1
    refine ⟨h1, fun z => ?_⟩
    rw [pasts_get b, (alook_some _ _).mpr z] at h2
    cases h2
  · rintro ⟨h1, h2⟩
    obtain ⟨a, b, c⟩ := mem_confs.mp h1
    refine ⟨h1, ?_⟩
    rw [pasts_get b]
    cases h : (alook (past t p.2) (p.1 : Int)).isSome with
    | false => rfl
    | true => exact absurd ((alook_some _ _).mp h) h2
theorem write_some {i j : Nat} (hi : i < t.length) (h : writeO t i = some j) : j < i ∧ (Tr.at t j).nm = .wr ∧ (Tr.at t j).tg = (Tr.at t i).tg := by
  unfold writeO at h
  have h1 := List.mem_filter.mp (List.mem_of_getLast? h)
  have h2 := List.mem_filter.mp h1.1
  rw [List.length_take] at h2
  have h3 := List.mem_range.mp h2.1
  have h4 : j < i := by omega
  rw [Tr.at_take h4, Bool.and_eq_true, decide_eq_true_iff] at h2
  exact ⟨h4, of_decide_eq_true h1.2, h2.2.2⟩
/-- where the unordered conflicts begin: the events before two of them that are as yet ordered -/
theorem first_race (V : ValidT t) {p : Nat × Nat} (hp : p ∈ unordN t) (hm : ∀ q ∈ unordN t, p.2 ≤ q.2) : raceB t p.1 p.2 = true := by
  obtain ⟨i, j⟩ := p
  have hf := V.2.1
  have hb := V.2.2
  obtain ⟨h1, h2⟩ := mem_unord.mp hp
  obtain ⟨hij, hj, hc⟩ := mem_confs.mp h1
  have hij : i < j := hij
  have hj : j < t.length := hj
  have hi : i < t.length := by omega
  have h2 : ¬ Bef t i j := h2
  have trans : ∀ {a b c : Nat}, Bef t a b → c < t.length → Bef t b c → Bef t a c := fun x hc y => bef_trans hb x _ _ (Nat.le_refl _) hc y
  let S : Nat → Prop := fun e => Bef t e i ∨ Bef t e j
  have lt : ∀ e, S e → e < j := fun e he => he.elim (fun z => Nat.lt_trans (bef_lt hb hi z) hij) fun z => bef_lt hb hj z
  have down : ∀ {o e : Nat}, S e → Bef t o e → S o := fun he ho => he.elim (fun z => .inl (trans ho hi z)) fun z => .inr (trans ho hj z)
  have ord : ∀ {o e : Nat}, o < e → e < j → confl t o e = true → Bef t o e := fun {o e} a b c => Classical.byContradiction fun z => by
    have := hm (o, e) (mem_unord.mpr ⟨mem_confs.mpr ⟨a, by show e < t.length; omega, c⟩, z⟩)
    have : j ≤ e := this
    omega
  have clo : Clo t S := by
    refine ⟨fun e he o ho => ?_, fun a b k ha hb' hbl hk => ?_⟩
    · have hel := lt e he
      have het : e < t.length := by omega
      have ho := mem_needsN.mp ho
      unfold founds at ho
      rcases List.mem_cons.mp ho with z | z
      · exact down he (bef_prev hb het z.symm)
      · by_cases hr : (Tr.at t e).nm = .rd
        · rw [if_pos hr] at z
          have hw := (List.mem_singleton.mp z).symm
          obtain ⟨w1, w2, w3⟩ := write_some het hw
          by_cases hth : (Tr.at t o).th = (Tr.at t e).th
          · exact down he (bef_thread hb e o e (Nat.le_refl _) het w1 hth)
          · refine down he (ord w1 hel ?_)
            unfold confl
            rw [w2, w3, hr, decide_eq_false hth, decide_eq_true rfl]
            rfl
        · rw [if_neg hr] at z
          by_cases hn : (Tr.at t e).nm = .jn
          · rw [if_pos hn] at z
            have hw := (List.mem_singleton.mp z).symm
            refine down he ((bef_iff hb het).mpr ⟨o, ?_, .inl rfl⟩)
            unfold preds
            exact List.mem_filterMap.mpr ⟨some o, List.mem_append_left _ (List.mem_append_right _ (by rw [if_pos hn, hw]; simp)), rfl⟩
          · rw [if_neg hn] at z
            cases z
    · have key : ∀ a b : Nat, a < b → S b → blk t a b = true → endO t a = some k → S k := fun a b hab hB hbl hk => by
        have hbt : b < t.length := by have := lt b hB; omega
        refine down hB ((bef_iff hb hbt).mpr ⟨k, ?_, .inl rfl⟩)
        unfold preds
        exact List.mem_filterMap.mpr ⟨some k, List.mem_append_right _ (List.mem_map.mpr ⟨a, List.mem_filter.mpr ⟨takers_mem.mpr ⟨by omega, (blk_takes hbl).1⟩, by rw [decide_eq_true hab, hbl]; rfl⟩, hk⟩), rfl⟩
      rcases Nat.lt_trichotomy a b with z | z | z
      · rw [Nat.min_eq_left (by omega)] at hk
        exact key a b z hb' hbl hk
      · exact absurd z (blk_ne hbl)
      · rw [Nat.min_eq_right (by omega)] at hk
        exact key b a z ha (by rw [blk_comm]; exact hbl) hk
  have hl := two_lt hi hj
  have gl := giv_lt hf hl
  unfold raceB
  rw [show confl t i j = true from hc, Bool.true_and, List.isEmpty_iff]
  refine List.eq_nil_iff_forall_not_mem.mpr fun e he => ?_
  obtain ⟨e1, e2⟩ := (met_mem V gl).mp he
  rw [closN_eq V gl, mem_clos hf gl] at e2
  have hS : S e := Cl.least clo (fun o ho => by
    obtain ⟨m, hm, hq⟩ := mem_givN.mp ho
    simp only [List.mem_cons, List.not_mem_nil, or_false] at hm
    rcases hm with rfl | rfl
    · exact .inl (bef_prev hb hi hq)
    · exact .inr (bef_prev hb hj hq)) e2
  simp only [List.mem_cons, List.not_mem_nil, or_false] at e1
  rcases e1 with rfl | rfl
  · rcases hS with z | z
    · exact absurd (bef_lt hb hi z) (Nat.lt_irrefl _)
    · exact h2 z
  · exact absurd (lt _ hS) (Nat.lt_irrefl _)
/-! ### beginnings -/
theorem valid_take (V : ValidT t) {n : Nat} (hn : n ≤ t.length) : ValidT (t.take n) := by
  refine valid_of (fun e he => V.1.1 e (List.mem_of_mem_take he)) (fault_none.mpr fun k hk => ?_) (by rw [List.length_take]; have := V.1.2; omega)
  have hk2 : k < t.length := by rw [List.length_take] at hk; omega
  have hkn : k < n := by rw [List.length_take] at hk; omega
  have h := fault_none.mp V.2.1 k hk2
  rw [List.take_take, Nat.min_eq_left (by omega), List.getElem_take]
  exact h
theorem range_split {n m : Nat} (h : n ≤ m) : List.range m = List.range n ++ List.range' n (m - n) := by
  have e := List.range'_append_1 (s := 0) (m := n) (n := m - n)
  rw [Nat.zero_add, show n + (m - n) = m by omega] at e
  rw [List.range_eq_range', List.range_eq_range', e]
theorem fork_take (V : ValidT t) {n i : Nat} {th : Int} (hn : n ≤ t.length) (h : forkO t th = some i) (hi : i < n) : forkO (t.take n) th = some i := by
  unfold forkO at h ⊢
  rw [List.length_take, Nat.min_eq_left hn]
  have e : ((List.range n).filter fun i => decide ((Tr.at (t.take n) i).nm = .frk) && decide ((Tr.at (t.take n) i).tg = th)) = (List.range n).filter fun i => decide ((Tr.at t i).nm = .frk) && decide ((Tr.at t i).tg = th) :=
    List.filter_congr fun k hk => by rw [Tr.at_take (List.mem_range.mp hk)]
  rw [e]
  have r := range_split hn
  rw [r, List.filter_append, List.head?_append] at h
  cases hh : ((List.range n).filter fun i => decide ((Tr.at t i).nm = .frk) && decide ((Tr.at t i).tg = th)).head? with
  | some x =>
    rw [hh] at h
    exact h
  | none =>
    rw [hh] at h
    have h : ((List.range' n (t.length - n)).filter _).head? = some i := h
    have := (List.mem_filter.mp (List.mem_of_head? h)).1
    obtain ⟨m, a, b⟩ := List.mem_range'.mp this
    omega
theorem fork_of_take {n i : Nat} {th : Int} (hn : n ≤ t.length) (h : forkO (t.take n) th = some i) : forkO t th = some i := by
  unfold forkO at h ⊢
  rw [List.length_take, Nat.min_eq_left hn] at h
  have e : ((List.range n).filter fun i => decide ((Tr.at (t.take n) i).nm = .frk) && decide ((Tr.at (t.take n) i).tg = th)) = (List.range n).filter fun i => decide ((Tr.at t i).nm = .frk) && decide ((Tr.at t i).tg = th) :=
    List.filter_congr fun k hk => by rw [Tr.at_take (List.mem_range.mp hk)]
  rw [e] at h
  have r := range_split hn
  rw [r, List.filter_append, List.head?_append, h]
  rfl
/-- what a thing finds in a beginning is what it finds in the whole, where that lies before it -/
theorem opt_eq {a b : Option Nat} {i : Nat} (h1 : ∀ j, a = some j → b = some j) (h2 : ∀ j, b = some j → j < i) (h3 : ∀ j, b = some j → j < i → a = some j) : a = b := by
  cases hb : b with
  | some j => exact h3 j hb (h2 j hb)
  | none =>
    cases ha : a with
    | none => rfl
    | some j => rw [h1 j ha] at hb; cases hb
theorem prev_take (V : ValidT t) {n i : Nat} (hn : n ≤ t.length) (hi : i < n) : prevO (t.take n) i = prevO t i := by
  have e : evs ((t.take n).take i) (Tr.at (t.take n) i).th = evs (t.take i) (Tr.at t i).th := by
    rw [List.take_take, Nat.min_eq_left (by omega), Tr.at_take hi]
  have hp : ∀ j, prevO t i = some j → j < i := fun j h => prev_lt V.2.1 (by omega) h
  refine opt_eq (i := i) (fun j h => ?_) hp fun j h hj => ?_
  · unfold prevO at h ⊢
    rw [e] at h
    cases hl : (evs (t.take i) (Tr.at t i).th).getLast? with
    | some x => rw [hl] at h; exact h
    | none =>
      rw [hl] at h
      have h : forkO (t.take n) (Tr.at (t.take n) i).th = some j := h
      rw [Tr.at_take hi] at h
      exact fork_of_take hn h
  · unfold prevO at h ⊢
    rw [e]
    cases hl : (evs (t.take i) (Tr.at t i).th).getLast? with
    | some x => rw [hl] at h; exact h
    | none =>
      rw [hl] at h
      rw [Tr.at_take hi]
      exact fork_take V hn h (by omega)
theorem write_take {n i : Nat} (hn : n ≤ t.length) (hi : i < n) : writeO (t.take n) i = writeO t i := by
  unfold writeO
  rw [List.take_take, Nat.min_eq_left (by omega), Tr.at_take hi]
  congr 1
  refine List.filter_congr fun k hk => ?_
  have := List.mem_range.mp (List.mem_filter.mp hk).1
  rw [List.length_take] at this
  rw [Tr.at_take (show k < n by omega)]
theorem evs_take_all {n : Nat} (hn : n ≤ t.length) {th : Int} (h : ∀ k, k < t.length → (Tr.at t k).th = th → k < n) : evs (t.take n) th = evs t th := by
  rw [evs_take hn]
  unfold evs
  have r := range_split hn
  rw [r, List.filter_append]
  have e : (List.range' n (t.length - n)).filter (fun i => decide ((Tr.at t i).th = th)) = [] := by
    rw [List.filter_eq_nil_iff]
    intro k hk z
    obtain ⟨m, a, b⟩ := List.mem_range'.mp hk
    have := h k (by omega) (of_decide_eq_true z)
    omega
  rw [e, List.append_nil]
theorem join_take (V : ValidT t) {n i : Nat} (hn : n ≤ t.length) (hi : i < n) (hj : (Tr.at t i).nm = .jn) : joinO (t.take n) i = joinO t i := by
  have hit : i < t.length := by omega
  have all : ∀ k, k < t.length → (Tr.at t k).th = (Tr.at t i).tg → k < n := fun k hk h => by
    cases hl : (evs t (Tr.at t i).tg).getLast? with
    | none =>
      have hm : k ∈ evs t (Tr.at t i).tg := evs_mem.mpr ⟨hk, h⟩
      rw [List.getLast?_eq_none_iff] at hl
      rw [hl] at hm
      cases hm
    | some y =>
      have hy : joinO t i = some y := by unfold joinO; rw [hl]
      have h1 := join_lt V.2.1 hit hj hy
      have h2 := last_max _ _ _ hl k hk (decide_eq_true h)
      omega
  have e : evs (t.take n) (Tr.at (t.take n) i).tg = evs t (Tr.at t i).tg := by
    rw [Tr.at_take hi]
    exact evs_take_all hn all
  have hp : ∀ j, joinO t i = some j → j < i := fun j h => join_lt V.2.1 hit hj h
  refine opt_eq (i := i) (fun j h => ?_) hp fun j h hj => ?_
  · unfold joinO at h ⊢
    rw [e] at h
    cases hl : (evs t (Tr.at t i).tg).getLast? with
    | some x => rw [hl] at h; exact h
    | none =>
      rw [hl] at h
      have h : forkO (t.take n) (Tr.at (t.take n) i).tg = some j := h
      rw [Tr.at_take hi] at h
      exact fork_of_take hn h
  · unfold joinO at h ⊢
    rw [e]
    cases hl : (evs t (Tr.at t i).tg).getLast? with
    | some x => rw [hl] at h; exact h
    | none =>
      rw [hl] at h
      rw [Tr.at_take hi]
      exact fork_take V hn h (by omega)
theorem founds_take (V : ValidT t) {n i : Nat} (hn : n ≤ t.length) (hi : i < n) : founds (t.take n) i = founds t i := by
  unfold founds
  rw [prev_take V hn hi, write_take hn hi, Tr.at_take hi]
  by_cases hr : (Tr.at t i).nm = .rd
  · rw [if_pos hr, if_pos hr]
  · rw [if_neg hr, if_neg hr]
    by_cases hj : (Tr.at t i).nm = .jn
    · rw [if_pos hj, if_pos hj, join_take V hn hi hj]
    · rw [if_neg hj, if_neg hj]
theorem blk_take {n i j : Nat} (hi : i < n) (hj : j < n) : blk (t.take n) i j = blk t i j := by
  unfold blk
  rw [Tr.at_take hi, Tr.at_take hj]
theorem end_take {n i : Nat} (hn : n ≤ t.length) (hi : i < n) {k : Nat} : endO (t.take n) i = some k ↔ endO t i = some k ∧ k < n := by
  unfold endO
  rw [List.length_take, Nat.min_eq_left hn]
  have e : ((List.range' (i + 1) (n - (i + 1))).filter fun j => decide (Tr.at (t.take n) j = ⟨(Tr.at (t.take n) i).th, (Tr.at (t.take n) i).nm.ended, (Tr.at (t.take n) i).tg⟩)) = (List.range' (i + 1) (n - (i + 1))).filter fun j => decide (Tr.at t j = ⟨(Tr.at t i).th, (Tr.at t i).nm.ended, (Tr.at t i).tg⟩) :=
    List.filter_congr fun k hk => by
      obtain ⟨m, a, b⟩ := List.mem_range'.mp hk
      rw [Tr.at_take hi, Tr.at_take (show k < n by omega)]
  rw [e]
  have r : List.range' (i + 1) (t.length - (i + 1)) = List.range' (i + 1) (n - (i + 1)) ++ List.range' n (t.length - n) := by
    rw [show t.length - (i + 1) = (n - (i + 1)) + (t.length - n) by omega, ← List.range'_append_1, show i + 1 + (n - (i + 1)) = n by omega]
  rw [r, List.filter_append, List.head?_append]
  constructor
  · intro h
    refine ⟨by rw [h]; rfl, ?_⟩
    obtain ⟨m, a, b⟩ := List.mem_range'.mp (List.mem_filter.mp (List.mem_of_head? h)).1
    omega
  · rintro ⟨h, hk⟩
    cases hh : ((List.range' (i + 1) (n - (i + 1))).filter fun j => decide (Tr.at t j = ⟨(Tr.at t i).th, (Tr.at t i).nm.ended, (Tr.at t i).tg⟩)).head? with
    | some x =>
      rw [hh] at h
      exact h
    | none =>
      rw [hh] at h
      have h : ((List.range' n (t.length - n)).filter _).head? = some k := h
      obtain ⟨m, a, b⟩ := List.mem_range'.mp (List.mem_filter.mp (List.mem_of_head? h)).1
      omega
theorem cl_take (V : ValidT t) {n : Nat} (hn : n ≤ t.length) {l : List Nat} (hl : ∀ i ∈ l, i < n) {e : Nat} : Cl (t.take n) l e ↔ Cl t l e := by
  have hf := V.2.1
  have hf' := (valid_take V hn).2.1
  have len : (t.take n).length = n := by rw [List.length_take]; omega
  have bnd : ∀ i, Cl (t.take n) l i → i < n := fun i h => by
    have := Cl.lt hf' (fun i hi => by rw [len]; exact hl i hi) h
    omega
  constructor
  · intro h
    induction h with
    | giv h => exact .giv h
    | @nee e o h ho ih =>
      refine .nee ih (mem_needsN.mpr ?_)
      have := mem_needsN.mp ho
      rw [founds_take V hn (bnd e h)] at this
      exact this
    | @fin a b k ha hb hbl hk ih1 ih2 =>
      have a1 := bnd a ha
      have b1 := bnd b hb
      rw [blk_take a1 b1] at hbl
      exact .fin ih1 ih2 hbl ((end_take hn (by omega)).mp hk).1
  · intro h
    have key : Cl (t.take n) l e ∧ e < n := by
      induction h with
      | giv h => exact ⟨.giv h, hl _ h⟩
      | @nee e o h ho ih =>
        refine ⟨.nee ih.1 (mem_needsN.mpr ?_), ?_⟩
        · rw [founds_take V hn ih.2]
          exact mem_needsN.mp ho
        · have := needs_lt hf (by have := ih.2; omega) ho
          have := ih.2
          omega
      | @fin a b k ha hb hbl hk ih1 ih2 =>
        obtain ⟨c1, a1⟩ := ih1
        obtain ⟨c2, b1⟩ := ih2
        obtain ⟨q, e1, e2⟩ := end_of hf (by omega) (by omega) hbl
        rw [e1] at hk
        cases hk
        have hk : k < n := by omega
        exact ⟨.fin c1 c2 (by rw [blk_take a1 b1]; exact hbl) ((end_take hn (by omega)).mpr ⟨e1, hk⟩), hk⟩
    exact key.1
theorem race_take (V : ValidT t) {n i j : Nat} (hn : n ≤ t.length) (hi : i < n) (hj : j < n) : raceB (t.take n) i j = raceB t i j := by
  have V' := valid_take V hn
  have len : (t.take n).length = n := by rw [List.length_take]; omega
  have l1 := two_lt (n := t.length) (i := i) (j := j) (by omega) (by omega)
  have l2 := two_lt (n := (t.take n).length) (i := i) (j := j) (by omega) (by omega)
  have g1 := giv_lt V.2.1 l1
  have g2 := giv_lt V'.2.1 l2
  have hg : ∀ x, x ∈ givN (t.take n) [i, j] ↔ x ∈ givN t [i, j] := fun x => by
    rw [mem_givN, mem_givN]
    simp only [List.mem_cons, List.not_mem_nil, or_false, exists_eq_or_imp, exists_eq_left]
    rw [prev_take V hn hi, prev_take V hn hj]
  have c : confl (t.take n) i j = confl t i j := by
    unfold confl
    rw [Tr.at_take hi, Tr.at_take hj]
  have m : ∀ x, x ∈ metN (t.take n) (givN (t.take n) [i, j]) [i, j] ↔ x ∈ metN t (givN t [i, j]) [i, j] := fun x => by
    rw [met_mem V' g2, met_mem V g1, closN_eq V' g2, closN_eq V g1, clos_congr V'.2.1 g2 hg, mem_clos V'.2.1 (fun y hy => g2 y ((hg y).mpr hy)), mem_clos V.2.1 g1, cl_take V hn fun y hy => by have := g2 y ((hg y).mpr hy); omega]
  unfold raceB
  rw [c]
  congr 1
  cases h1 : metN (t.take n) (givN (t.take n) [i, j]) [i, j] with
  | nil =>
    cases h2 : metN t (givN t [i, j]) [i, j] with
    | nil => rfl
    | cons x r =>
      have := (m x).mpr (by rw [h2]; simp)
      rw [h1] at this
      cases this
  | cons x r =>
    cases h2 : metN t (givN t [i, j]) [i, j] with
    | nil =>
      have := (m x).mp (by rw [h1]; simp)
      rw [h2] at this
      cases this
    | cons y s => rfl
/-- by the first, then by the second -/
def lex (p q : Nat × Nat) : Prop := p.1 < q.1 ∨ (p.1 = q.1 ∧ p.2 < q.2)
theorem confs_pw (t : Tr) : (confs t).Pairwise lex := by
  unfold confs
  rw [List.pairwise_flatMap]
  refine ⟨fun i _ => ?_, ?_⟩
  · unfold rowC
    rw [List.pairwise_map]
    refine List.Pairwise.imp (fun {a b} h => .inr ⟨rfl, h⟩) (List.Pairwise.filter _ ?_)
    exact List.pairwise_lt_range'
  · refine List.Pairwise.imp (fun {a b} h => fun x hx y hy => ?_) (List.pairwise_lt_range (n := t.length))
    unfold rowC at hx hy
    obtain ⟨c, _, rfl⟩ := List.mem_map.mp hx
    obtain ⟨d, _, rfl⟩ := List.mem_map.mp hy
    exact .inl h
theorem lex_eq {l m : List (Nat × Nat)} (h1 : l.Pairwise lex) (h2 : m.Pairwise lex) (h : ∀ p, p ∈ l ↔ p ∈ m) : l = m := by
  have ir : ∀ {p q : Nat × Nat}, lex p q → p ≠ q := fun {p q} z e => by
    subst e
    rcases z with z | z
    · exact Nat.lt_irrefl _ z
    · exact Nat.lt_irrefl _ z.2
  have p : l.Perm m := (List.perm_ext_iff_of_nodup (h1.imp ir) (h2.imp ir)).mpr h
  refine p.eq_of_pairwise (fun a b _ _ x y => ?_) h1 h2
  exfalso
  rcases x with x | x <;> rcases y with y | y <;> omega
theorem races_take (V : ValidT t) {n : Nat} (hn : n ≤ t.length) : racesN (t.take n) = (racesN t).filter fun p => decide (p.2 < n) := by
  refine lex_eq (List.Pairwise.filter _ (confs_pw _)) (List.Pairwise.filter _ (List.Pairwise.filter _ (confs_pw _))) fun p => ?_
  rw [List.mem_filter, mem_races, mem_races, List.length_take, decide_eq_true_iff]
  constructor
  · rintro ⟨a, b, c⟩
    rw [race_take V hn (by omega) (by omega)] at c
    exact ⟨⟨a, by omega, c⟩, by omega⟩
  · rintro ⟨⟨a, b, c⟩, d⟩
    refine ⟨a, by omega, ?_⟩
    rw [race_take V hn (by omega) d]
    exact c
end
end DL
namespace DL
open PySem PySem.Spec L2
theorem sc_law : FnScope ["script", "at", "pot", "events", "pairs", "races", "least", "number", "early", "i", "j", "pair"] ["script"] (defScope s_law) := ⟨rfl, rfl, rfl, by decide +kernel, rfl, by decide +kernel, by decide +kernel⟩
theorem rv_isnB {K : PySem.W.Frag} {i j : Bool} : RV K (fun x y H Q => ∃ a b, x = .bl a ∧ y = .bl b ∧ Q (.bl (!decide (a = b))) H) (.bl i) (.bl j) (.bl (!decide (i = j))) := fun O Y H x y dm hx hy Q q => ⟨i, j, hx.bl, hy.bl, q _ H (Same.refl H) rfl⟩
theorem rc_minI {K : PySem.W.Frag} {ns : List Int} {m : Int} (hm : m ∈ ns) (hl : ∀ y ∈ ns, m ≤ y) : RC1 K (rMin K) (.lst (ns.map .int)) (.int m) := fun O Y H x dm hx Q q => by
  obtain ⟨a, xs, rfl, h2, h3⟩ := hx.lst
  rw [h3.ints] at h2
  refine ⟨a, ns, rfl, .inl h2, List.length_pos_of_mem hm, fun z hz hz2 => ?_⟩
  have : z = m := Int.le_antisymm (hz2 m hm) (hl z hz)
  rw [this]
  exact q _ H (Same.refl H) rfl
theorem least_ex : ∀ (l : List Nat), l ≠ [] → ∃ m ∈ l, ∀ y ∈ l, m ≤ y
  | [], h => absurd rfl h
  | [a], _ => ⟨a, by simp, fun y hy => by have := List.mem_singleton.mp hy; omega⟩
  | a :: b :: l, _ => by
    obtain ⟨m, hm, h⟩ := least_ex (b :: l) (by simp)
    by_cases e : a ≤ m
    · refine ⟨a, by simp, fun y hy => ?_⟩
      rcases List.mem_cons.mp hy with z | z
      · omega
      · exact Nat.le_trans e (h y z)
    · refine ⟨m, List.mem_cons_of_mem _ hm, fun y hy => ?_⟩
      rcases List.mem_cons.mp hy with z | z
      · omega
      · exact h y z
theorem ig_seqT {K : PySem.W.Frag} {ρ : List Sl} {te : TE} {PostA : List Dt → List Sl → Prop} (h : EvG K te ρ fun d ρ1 => ∃ ds, d = .tup ds ∧ PostA ds ρ1) : EvIG K (iSeq K te) ρ PostA := fun O Y H σ I R q => .inr (h O Y H σ I _ fun d ρ1 v H1 ⟨ds, e1, hp⟩ I1 s hv => by
  subst e1
  have hv2 := hv
  obtain ⟨a, xs, rfl, h2, h3⟩ := hv
  exact ⟨a, rfl, ⟨xs, SqT.of (cut_le _ _ _ _ h2)⟩, q _ ds ρ1 H1 hp I1 s (wk_tup h2 h3)⟩)
theorem pairs_sm {l : List (Nat × Nat)} (h : l.length ≤ 100000) : Smp 8 (.lst (l.map pairN)) := .lst 7 _ (by rw [List.length_map]; exact h) fun d hd => by
  obtain ⟨p, _, rfl⟩ := List.mem_map.mp hd
  exact .tup 6 _ (by show 2 ≤ 100000; decide) fun e he => by
    simp only [List.mem_cons, List.not_mem_nil, or_false] at he
    rcases he with z | z <;> (rw [z]; exact .int _ _)
theorem lay_pair (p : Nat × Nat) : lay 1 (pairN p) = true := rfl
theorem lay_prs (l : List (Nat × Nat)) : lay 2 (.lst (l.map pairN)) = true := by
  rw [lay]
  refine lays_all fun d hd => ?_
  obtain ⟨p, _, rfl⟩ := List.mem_map.mp hd
  rfl
theorem deq_self (p : Nat × Nat) : deq (pairN p) (pairN p) = true := by
  have h : ∀ i : Nat, PyData.eqv (.int (i : Int)) (.int (i : Int)) = true := fun i => by simp [PyData.eqv]
  show PyData.eqv (.tuple [.int (p.1 : Int), .int (p.2 : Int)]) (.tuple [.int (p.1 : Int), .int (p.2 : Int)]) = true
  simp [PyData.eqv, PyData.eqvAll]
theorem no_list {K : PySem.W.Frag} {ρ : List Sl} {te : TE} (h : Ev K te ρ (.lst [])) : EvT K (tTest (tOp (rNeA K) te (tLst tNil))) ρ false :=
  et_test ((ev_op h (en_lst ea_nil (by decide)).ev (rv_neD (lay_nsD []) (lay_nsD []))).is (congrArg (fun b => Dt.bl (!b)) (deq_nil [])))
theorem made_no {α : Type} (f : α → Dt) (xs : List α) : made (fun _ => false) f xs = [] := by
  unfold made
  induction xs with
  | nil => rfl
  | cons x xs ih => exact ih
abbrev sp_law (K : PySem.W.Frag) : Sp := spD K (fun ns : List Int => [.kl (ns.map .int)]) (fun ns => ns.length ≤ 100000) (fun _ => .bl true)
def t_law (K : PySem.W.Frag) : TS := (tSeq (tFor (iSeq K (tCall (sp__law_turns K) [] E0 (tCons (tVar 0) (tCons (tC (.int 4)) (tCons (tC (.int 24)) tNil))))) (gName 1) (tSeq (tAsg (tCall (sp__law_pot K) [] E0 (tCons (tVar 0) (tCons (tVar 1) tNil))) (gName 2)) (tSeq (tAsg (tCall (sp__law_trace K) [] E0 (tCons (tVar 2) (tCons (tC (.int 16)) (tCons (tTup (tCons (tC (.int 4)) (tCons (tC (.int 3)) (tCons (tC (.int 3)) tNil)))) tNil)))) (gName 3)) (tSeq (tAsg (tTup (tCons (tCall (sp_unordered_pairs K) [] E0 (tCons (tVar 3) tNil)) (tCons (tCall (sp_races_of K) [] E0 (tCons (tVar 3) tNil)) tNil))) (gTup K 2 (gCons (gName 4) (gCons (gName 5) gNil)))) (tSeq (tAsg (tCB (rMin K) (tCons (tOp (rAddA K) (tLc (iSeq K (tVar 4)) (gTup K 2 (gCons (gName 9) (gCons (gName 10) gNil))) tYes (tVar 10) [9, 10]) (tLst (tCons (tCB (rLen K) (tCons (tVar 3) tNil)) tNil))) tNil)) (gName 6)) (tSeq (tIfS (tTest (tOp (rNeA K) (tLc (iSeq K (tVar 4)) (gName 11) (tAnd (tTest (tOp (rEqA K) (tOp (rIx K) (tVar 11) (tC (.int 1))) (tVar 6))) (tOr (tTest (tOp (rNotInA K) (tVar 11) (tVar 5))) (tTest (tOp (fun x y H Q => ∃ a b, x = .bl a ∧ y = .bl b ∧ Q (.bl (!decide (a = b))) H) (tCall (sp_is_race K) [] E0 (tCons (tVar 3) (tCons (tOp (rIx K) (tVar 11) (tC (.int 0))) (tCons (tOp (rIx K) (tVar 11) (tC (.int 1))) tNil)))) (tC (.bl true)))))) (tVar 11) [11]) (tLst tNil))) (tRet (tC (.bl false))) tNext) (tSeq (tFor (iSeq K (tTup (tCons (tCall (sp__law_draw K) [] E0 (tCons (tVar 2) (tCons (tOp (rAddA K) (tCB (rLen K) (tCons (tVar 3) tNil)) (tC (.int 1))) tNil))) (tCons (tCall (sp__law_draw K) [] E0 (tCons (tVar 2) (tCons (tOp (rAddA K) (tCB (rLen K) (tCons (tVar 3) tNil)) (tC (.int 1))) tNil))) tNil)))) (gName 7) (tSeq (tAsg (tCall (sp_races_of K) [] E0 (tCons (tCall (sp_beginning K) [] E0 (tCons (tVar 3) (tCons (tVar 7) tNil))) tNil)) (gName 8)) (tIfS (tNot (tB (tCall (sp__law_same K) [] E0 (tCons (tVar 8) (tCons (tLc (iSeq K (tVar 5)) (gName 11) (tTest (tOp (rI0 fun i j => .bl (decide (i < j))) (tOp (rIx K) (tVar 11) (tC (.int 1))) (tVar 7))) (tVar 11) [11]) tNil))))) (tRet (tC (.bl false))) tNext))) (tIfS (tTest (tOp (rNeA K) (tLc (iSeq K (tVar 5)) (gName 11) (tNot (tB (tCall (sp__law_conflict K) [] E0 (tCons (tVar 3) (tCons (tOp (rIx K) (tVar 11) (tC (.int 0))) (tCons (tOp (rIx K) (tVar 11) (tC (.int 1))) tNil)))))) (tVar 11) [11]) (tLst tNil))) (tRet (tC (.bl false))) tNext)))))))) (tRet (tC (.bl true))))
set_option maxHeartbeats 8000000 in
theorem run_law {K : PySem.W.Frag} (ns : List Int) (hx : ns.length ≤ 100000) : Runs K (t_law K) [.dat (.kl (ns.map .int)), .un, .un, .un, .un, .un, .un, .un, .un, .un, .un, .un] { nx := fun _ => (Dt.bl true : Dt) = .non, rt := fun e _ => e = .bl true } := by
  generalize hS : Dt.kl (ns.map .int) = S
  refine q_for (ds := (List.range (turnsN S 4 24)).map natD) (sl := [1]) (ei_seqL (ev_call ((S, 4, 24) : Dt × Int × Int) (ea_cons (ev_var rfl) (ea_cons ev_int (ea_cons ev_int ea_nil))) ⟨ns, hS.symm, hx, show (0 : Int) ≤ 4 by decide, show (4 : Int) ≤ 1000 by decide, show (0 : Int) ≤ 24 by decide, show (24 : Int) ≤ 1000 by decide⟩))
    (fun k ρ => ∃ s1 s2 s3 s4 s5 s6 s7 s8 s9 s10 s11, ρ = [.dat S, s1, s2, s3, s4, s5, s6, s7, s8, s9, s10, s11]) ⟨_, _, _, _, _, _, _, _, _, _, _, rfl⟩ ?_ ?_
  · intro k d ρ2 hk ⟨s1, s2, s3, s4, s5, s6, s7, s8, s9, s10, s11, e⟩
    subst e
    have hkl : k < turnsN S 4 24 := by
      have := (List.getElem?_eq_some_iff.mp hk).1
      rw [List.length_map, List.length_range] at this
      exact this
    have hd : d = natD k := by
      rw [List.getElem?_map, List.getElem?_range hkl] at hk
      exact (Option.some.inj hk).symm
    subst hd
    have hk2 := turnsN_le (d := S) (lo := 4) (hi := 24) (by decide) (by decide)
    refine ⟨_, tg_name, r_seq (r_asgGN ((ns, k) : List Int × Nat) (ea_cons ((ev_var rfl).is hS.symm) (ea_cons (ev_var rfl) ea_nil)) ⟨hx, by show k ≤ 1000; omega⟩ fun d0 hk0 => ?_)⟩
    refine q_setG (eg_callP ((16, 4, 3, 3) : Int × Int × Int × Int) rfl hk0 (ea_cons ev_int (ea_cons (ev_tup (ea_cons ev_int (ea_cons ev_int (ea_cons ev_int ea_nil))) (show 3 ≤ sizeLine by decide)) ea_nil)) ⟨by decide, by decide, by decide, by decide⟩ fun d d1 hR hk1 => ?_)
    obtain ⟨t, rfl, g1, g2, g3⟩ := hR
    have hl : t.length ≤ 16 := by
      have g3 : (t.length : Int) ≤ 16 := g3
      omega
    have V : ValidT t := valid_of g1 g2 (by omega)
    have lenE : ∀ ρ : List Sl, ρ[3]? = some (.dat (encT t)) → Ev K (tCB (rLen K) (tCons (tVar 3) tNil)) ρ (natD t.length) := fun ρ h => (ev_cb1 (ev_var h).rd rc_lenT).is (show _ = natD t.length by rw [List.length_map]; rfl)
    have cl := confs_len t
    have cl2 : t.length * t.length ≤ 16 * 16 := Nat.mul_le_mul hl hl
    have ul : (unordN t).length ≤ 256 := Nat.le_trans (List.length_filter_le _ _) (by omega)
    have rl : (racesN t).length ≤ 256 := Nat.le_trans (List.length_filter_le _ _) (by omega)
    have p0 : ∀ {ρ : List Sl} {p : Nat × Nat}, ρ[11]? = some (.dat (pairN p)) → Ev K (tOp (rIx K) (tVar 11) (tC (.int 0))) ρ (natD p.1) := fun h => ev_op (ev_var h) ev_int (rv_ixT rfl)
    have p1 : ∀ {ρ : List Sl} {p : Nat × Nat}, ρ[11]? = some (.dat (pairN p)) → Ev K (tOp (rIx K) (tVar 11) (tC (.int 1))) ρ (natD p.2) := fun h => ev_op (ev_var h) ev_int (rv_ixT rfl)
    refine q_setTg (ev_tup (ea_cons (ev_call t (ea_cons (ev_var rfl) ea_nil) ⟨V, by omega⟩) (ea_cons (ev_call t (ea_cons (ev_var rfl) ea_nil) ⟨V, by omega⟩) ea_nil)) (show 2 ≤ sizeLine by decide)) (tg_tup (tgs_cons tg_name (tgs_cons tg_name tgs_nil)) rfl) ?_
    -- the least
    obtain ⟨m, hm, hmin⟩ := least_ex ((unordN t).map (·.2) ++ [t.length]) (by simp)
    refine q_set (d := natD m) (Ev.is (ev_cb1 (Ev.rd (Ev.is (ev_opR (en_lcM pairN (unordN t) (fun _ => true) (fun p => natD p.2) (ei_seqL (ev_var rfl)).r (fun p hp => ⟨_, _, fun _ h => h, tg_tup (tgs_cons tg_name (tgs_cons tg_name tgs_nil)) rfl, et_yes, fun _ => ev_var rfl⟩) (by unfold sizeLine; omega)).ev.rd (en_lst (ea_cons (lenE _ rfl) ea_nil) (show 1 ≤ sizeLine by decide)).ev.rd (rv_addL ?_)) (show _ = Dt.lst ((((unordN t).map (·.2) ++ [t.length]).map fun (i : Nat) => (i : Int)).map .int) from ?_))) (rc_minI (m := (m : Int)) ?_ ?_)) rfl) ?_
    · rw [made_all, List.length_map]
      unfold sizeLine
      simp only [List.length_cons, List.length_nil]
      omega
    · rw [made_all, List.map_append, List.map_append, List.map_map, List.map_map]
      rfl
    · exact List.mem_map.mpr ⟨m, hm, rfl⟩
    · intro y hy
      obtain ⟨z, hz, rfl⟩ := List.mem_map.mp hy
      have := hmin z hz
      omega
    -- the first ones are races
    refine q_when (b := false) (no_list (Ev.is (en_lcM pairN (unordN t) (fun _ => false) pairN (ei_seqL (ev_var rfl)).r (fun p hp => ?_) (by unfold sizeLine; omega)).ev (congrArg Dt.lst (made_no _ _)))) (fun e => by cases e) fun _ => ?_
    · obtain ⟨c1, c2, c3⟩ := mem_confs.mp (mem_unord.mp hp).1
      refine ⟨_, _, fun _ h => h, tg_name, EvT.is (et_and (a := decide (p.2 = m)) (b := false) (et_test ((ev_op (p1 rfl) (ev_var rfl) rv_eqAI).is (congrArg Dt.bl (decide_eq_decide.mpr ⟨fun z => by have z : (p.2 : Int) = (m : Int) := z; omega, fun z => by show (p.2 : Int) = (m : Int); omega⟩)))) fun h => ?_) (Bool.and_false _), fun z => by cases z⟩
      have h := of_decide_eq_true h
      have hr : raceB t p.1 p.2 = true := first_race V hp fun q hq => by
        rw [h]
        exact hmin q.2 (List.mem_append_left _ (List.mem_map.mpr ⟨q, hq, rfl⟩))
      have hrm : p ∈ racesN t := mem_races.mpr ⟨c1, c2, hr⟩
      refine EvT.is (et_or (a := false) (b := false) (et_test ((ev_op (ev_var rfl) (ev_var rfl) (rv_notinD (lay_pair p) (lay_prs _))).is (show Dt.bl (!((racesN t).map pairN).any fun z => deq z (pairN p)) = .bl false from congrArg (fun b => Dt.bl (!b)) (List.any_eq_true.mpr (⟨pairN p, List.mem_map.mpr ⟨p, hrm, rfl⟩, deq_self p⟩ : ∃ x ∈ (racesN t).map pairN, (fun z => deq z (pairN p)) x = true))))) fun _ => et_test ((ev_op (ev_call ((t, p.1, p.2) : Tr × Nat × Nat) (ea_cons (ev_var rfl) (ea_cons (p0 rfl) (ea_cons (p1 rfl) ea_nil))) ⟨V, by show t.length ≤ 1000; omega, by show p.1 < t.length; omega, c2⟩) ev_bl rv_isnB).is ?_)) rfl
      show Dt.bl (!decide (raceB t p.1 p.2 = true)) = .bl false
      rw [hr]
      rfl
    -- the beginnings
    refine r_seq (r_forG (sl := [7]) (ig_seqT (eg_tup (ag_cons (eg_callP (((t.length : Nat) : Int) + 1) rfl hk1 (ea_cons (ev_op (lenE _ rfl) ev_int rv_addI) ea_nil) ⟨by omega, by omega⟩ fun d2 d3 hR2 hk3 => ag_cons (eg_callP (((t.length : Nat) : Int) + 1) rfl hk3 (ea_cons (ev_op (lenE _ rfl) ev_int rv_addI) ea_nil) ⟨by omega, by omega⟩ fun d4 d5 hR4 hk5 => ag_nil ?_))))))
    refine ⟨show 2 ≤ sizeLine by decide, _, rfl, fun _ ρ => ∃ s7 s8, ρ = [.dat S, .dat (natD k), .own none d5, .dat (encT t), .dat (.lst ((unordN t).map pairN)), .dat (.lst ((racesN t).map pairN)), .dat (natD m), s7, s8, s9, s10, s11], ⟨s7, s8, rfl⟩, fun a d ρ2 hd ⟨z7, z8, e0⟩ => ?_, fun ρ2 ⟨z7, z8, e0⟩ => ?_⟩
    · subst e0
      have hn : ∃ n : Nat, d = natD n ∧ n ≤ t.length := by
        have := List.mem_of_getElem? hd
        simp only [List.mem_cons, List.not_mem_nil, or_false] at this
        rcases this with z | z
        · obtain ⟨r, e1, e2, e3⟩ := hR2
          refine ⟨r.toNat, ?_, by omega⟩
          rw [z, e1]
          show Dt.int r = .int ((r.toNat : Nat) : Int)
          rw [show ((r.toNat : Nat) : Int) = r by omega]
        · obtain ⟨r, e1, e2, e3⟩ := hR4
          refine ⟨r.toNat, ?_, by omega⟩
          rw [z, e1]
          show Dt.int r = .int ((r.toNat : Nat) : Int)
          rw [show ((r.toNat : Nat) : Int) = r by omega]
      obtain ⟨n, rfl, hn⟩ := hn
      have rt := races_take V hn
      have rl2 : (racesN (t.take n)).length ≤ 256 := by rw [rt]; exact Nat.le_trans (List.length_filter_le _ _) rl
      refine ⟨_, tg_name, q_set (ev_call (t.take n) (ea_cons (ev_call ((t, n) : Tr × Nat) (ea_cons (ev_var rfl) (ea_cons (ev_var rfl) ea_nil)) ⟨V.1, V.2.1⟩) ea_nil) ⟨valid_take V hn, by rw [List.length_take]; omega⟩) ?_⟩
      refine r_if (b := false) (EvT.is (et_not (et_B (ev_call (Dt.lst ((racesN (t.take n)).map pairN)) (ea_cons (ev_var rfl) (ea_cons (Ev.is (en_lcM pairN (racesN t) (fun p => decide (p.2 < n)) pairN (ei_seqL (ev_var rfl)).r (fun p hp => ?_) (by unfold sizeLine; omega)).ev (show _ = Dt.lst ((racesN (t.take n)).map pairN) by rw [rt]; rfl)) ea_nil)) (pairs_sm (by omega))))) rfl) (fun e => by cases e) fun _ => r_next ⟨_, _, rfl⟩
      exact ⟨_, _, fun _ h => h, tg_name, et_test ((ev_op (p1 rfl) (ev_var rfl) rv_B0).is (congrArg Dt.bl (decide_eq_decide.mpr ⟨fun z => by have z : (p.2 : Int) < (n : Int) := z; omega, fun z => by show (p.2 : Int) < (n : Int); omega⟩))), fun _ => ev_var rfl⟩
    · subst e0
      -- races are conflicts
      refine r_if (b := false) (no_list (Ev.is (en_lcM pairN (racesN t) (fun _ => false) pairN (ei_seqL (ev_var rfl)).r (fun p hp => ?_) (by unfold sizeLine; omega)).ev (congrArg Dt.lst (made_no _ _)))) (fun e => by cases e) fun _ => r_next ⟨_, _, _, _, _, _, _, _, _, _, _, rfl⟩
      obtain ⟨c1, c2, c3⟩ := mem_races.mp hp
      unfold raceB at c3
      rw [Bool.and_eq_true] at c3
      refine ⟨_, _, fun _ h => h, tg_name, EvT.is (et_not (et_B (ev_call ((t, p.1, p.2) : Tr × Nat × Nat) (ea_cons (ev_var rfl) (ea_cons (p0 rfl) (ea_cons (p1 rfl) ea_nil))) ⟨by show p.1 < t.length; omega, c2⟩))) ?_, fun z => by cases z⟩
      show (!confl t p.1 p.2) = false
      rw [c3.1]
      rfl
  · intro ρ2 ⟨s1, s2, s3, s4, s5, s6, s7, s8, s9, s10, s11, e⟩
    subst e
    exact r_ret ev_bl rfl
theorem ok_law {P : Program} {w : World} {K : PySem.W.Frag} {mg : Str → Option Value} {base : Heap} (T : Txt w K mg) : Def P w K mg base "law" ["script"] 27 (sp_law K) := by
  obtain ⟨f, fd, F, gl⟩ := T.fn_law
  exact ⟨f, fd, gl, F.kp, FunD.bindsN F (fun _ _ _ _ _ _ us hl => match us, hl with | [_], _ => rfl), fn_f F sc_law (fun _ => rfl) (t_law K) (fun cdv A outer s H E hr => (pss_cons (ps_for PassesOwn.never rfl (pi_seq (pe_callD (ok__law_turns T) hr (by decide) (by rfl) (pa_cons (pv 0) (pa_cons pe_int (pa_cons pe_int pa_nil))))) (pg_name (i := 1) sc_law.nd rfl (by first | exact Or.inl rfl | exact Or.inr rfl)) (pss_cons (ps_set (i := 2) sc_law.nd rfl (by first | exact Or.inl rfl | exact Or.inr rfl) (pe_callD (ok__law_pot T) hr (by decide) (by rfl) (pa_cons (pv 0) (pa_cons (pv 1) pa_nil)))) (pss_cons (ps_set (i := 3) sc_law.nd rfl (by first | exact Or.inl rfl | exact Or.inr rfl) (pe_callD (ok__law_trace T) hr (by decide) (by rfl) (pa_cons (pv 2) (pa_cons pe_int (pa_cons (pe_tup (pa_cons pe_int (pa_cons pe_int (pa_cons pe_int pa_nil)))) pa_nil))))) (pss_cons (ps_asg (pe_tup (pa_cons (pe_callD (ok_unordered_pairs T) hr (by decide) (by rfl) (pa_cons (pv 3) pa_nil)) (pa_cons (pe_callD (ok_races_of T) hr (by decide) (by rfl) (pa_cons (pv 3) pa_nil)) pa_nil))) (pg_tup rfl (pgs_cons (pg_name (i := 4) sc_law.nd rfl (by first | exact Or.inl rfl | exact Or.inr rfl)) (pgs_cons (pg_name (i := 5) sc_law.nd rfl (by first | exact Or.inl rfl | exact Or.inr rfl)) pgs_nil)))) (pss_cons (ps_set (i := 6) sc_law.nd rfl (by first | exact Or.inl rfl | exact Or.inr rfl) (pe_callB (cr_min rfl) (by rfl) T.b_min (by decide +kernel) (pa_cons (pe_op op_addA (pe_lc (own := [("i", 9), ("j", 10)]) rfl sc_law.nd (pi_seq (pv 4)) (blkOk_by (by kernel_rfl)) (fun _ _ _ _ _ => (pg_tup rfl (pgs_cons (pg_name (i := 9) sc_law.nd rfl (by first | exact Or.inl rfl | exact Or.inr rfl)) (pgs_cons (pg_name (i := 10) sc_law.nd rfl (by first | exact Or.inl rfl | exact Or.inr rfl)) pgs_nil)))) (fun _ _ _ _ _ => pts_nil) (fun _ _ _ _ _ => (pv 10))) (pe_lst (pa_cons (pe_callB call_len (by rfl) T.b_len (by decide +kernel) (pa_cons (pv 3) pa_nil)) pa_nil))) pa_nil))) (pss_cons (ps_if (pt_cmpR (op_neA (hu65 hr)) (pe_lc (own := [("pair", 11)]) rfl sc_law.nd (pi_seq (pv 4)) (blkOk_by (by kernel_rfl)) (fun _ _ _ _ _ => (pg_name (i := 11) sc_law.nd rfl (by first | exact Or.inl rfl | exact Or.inr rfl))) (fun _ _ _ _ _ => (pts_one (PW.pt (pw_and (pt_cmpR (op_eqA (hu65 hr)) (pe_ix ix_seq (pv 11) pe_int (fun _ _ => rfl)) (pv 6) (nomark _)) (pw_and1 (PW.pt (pw_or (pt_cmpR (op_notinA (hu65 hr)) (pv 11) (pv 5) (by rfl)) (pw_or1 (pt_cmpR op_isnot_bl (pe_callD (ok_is_race T) hr (by decide) (by rfl) (pa_cons (pv 3) (pa_cons (pe_ix ix_seq (pv 11) pe_int (fun _ _ => rfl)) (pa_cons (pe_ix ix_seq (pv 11) pe_int (fun _ _ => rfl)) pa_nil)))) pe_bl (nomark _)))))))))) (fun _ _ _ _ _ => (pv 11))) (pe_lst pa_nil) (nomark _)) (pss_one (ps_ret pe_bl)) pss_nil) (pss_cons (ps_for PassesOwn.never rfl (pi_seq (pe_tup (pa_cons (pe_callD (ok__law_draw T) hr (by decide) (by rfl) (pa_cons (pv 2) (pa_cons (pe_op op_addA (pe_callB call_len (by rfl) T.b_len (by decide +kernel) (pa_cons (pv 3) pa_nil)) pe_int) pa_nil))) (pa_cons (pe_callD (ok__law_draw T) hr (by decide) (by rfl) (pa_cons (pv 2) (pa_cons (pe_op op_addA (pe_callB call_len (by rfl) T.b_len (by decide +kernel) (pa_cons (pv 3) pa_nil)) pe_int) pa_nil))) pa_nil)))) (pg_name (i := 7) sc_law.nd rfl (by first | exact Or.inl rfl | exact Or.inr rfl)) (pss_cons (ps_set (i := 8) sc_law.nd rfl (by first | exact Or.inl rfl | exact Or.inr rfl) (pe_callD (ok_races_of T) hr (by decide) (by rfl) (pa_cons (pe_callD (ok_beginning T) hr (by decide) (by rfl) (pa_cons (pv 3) (pa_cons (pv 7) pa_nil))) pa_nil))) (pss_one (ps_if (pt_not (pt_val (pe_callD (ok__law_same T) hr (by decide) (by rfl) (pa_cons (pv 8) (pa_cons (pe_lc (own := [("pair", 11)]) rfl sc_law.nd (pi_seq (pv 5)) (blkOk_by (by kernel_rfl)) (fun _ _ _ _ _ => (pg_name (i := 11) sc_law.nd rfl (by first | exact Or.inl rfl | exact Or.inr rfl))) (fun _ _ _ _ _ => (pts_one (pt_cmpR op_lt (pe_ix ix_seq (pv 11) pe_int (fun _ _ => rfl)) (pv 7) (nomark _)))) (fun _ _ _ _ _ => (pv 11))) pa_nil))))) (pss_one (ps_ret pe_bl)) pss_nil)))) (pss_one (ps_if (pt_cmpR (op_neA (hu65 hr)) (pe_lc (own := [("pair", 11)]) rfl sc_law.nd (pi_seq (pv 5)) (blkOk_by (by kernel_rfl)) (fun _ _ _ _ _ => (pg_name (i := 11) sc_law.nd rfl (by first | exact Or.inl rfl | exact Or.inr rfl))) (fun _ _ _ _ _ => (pts_one (pt_not (pt_val (pe_callD (ok__law_conflict T) hr (by decide) (by rfl) (pa_cons (pv 3) (pa_cons (pe_ix ix_seq (pv 11) pe_int (fun _ _ => rfl)) (pa_cons (pe_ix ix_seq (pv 11) pe_int (fun _ _ => rfl)) pa_nil)))))))) (fun _ _ _ _ _ => (pv 11))) (pe_lst pa_nil) (nomark _)) (pss_one (ps_ret pe_bl)) pss_nil))))))))) (pss_one (ps_ret pe_bl)))) (by decide) (fun x hx => run_law x hx)⟩
end DL
namespace DL
open PySem PySem.Spec PyProof.Rows L2
def fn_0 : He.DefD := ⟨("_wall", none), "_wall", "_wall", defArgs s__wall, defBody s__wall, defScope s__wall, [], []⟩
def fn_1 : He.DefD := ⟨("is_integer", none), "is_integer", "is_integer", defArgs s_is_integer, defBody s_is_integer, defScope s_is_integer, [], []⟩
def fn_2 : He.DefD := ⟨("is_from", none), "is_from", "is_from", defArgs s_is_from, defBody s_is_from, defScope s_is_from, [], []⟩
def fn_3 : He.DefD := ⟨("is_index", none), "is_index", "is_index", defArgs s_is_index, defBody s_is_index, defScope s_is_index, [], []⟩
def fn_4 : He.DefD := ⟨("is_tuple_of", none), "is_tuple_of", "is_tuple_of", defArgs s_is_tuple_of, defBody s_is_tuple_of, defScope s_is_tuple_of, [], []⟩
def fn_5 : He.DefD := ⟨("is_event", none), "is_event", "is_event", defArgs s_is_event, defBody s_is_event, defScope s_is_event, [], []⟩
def fn_6 : He.DefD := ⟨("trace_fault", none), "trace_fault", "trace_fault", defArgs s_trace_fault, defBody s_trace_fault, defScope s_trace_fault, [], []⟩
def fn_7 : He.DefD := ⟨("check_trace", none), "check_trace", "check_trace", defArgs s_check_trace, defBody s_check_trace, defScope s_check_trace, [], []⟩
def fn_8 : He.DefD := ⟨("check_event", none), "check_event", "check_event", defArgs s_check_event, defBody s_check_event, defScope s_check_event, [], []⟩
def fn_9 : He.DefD := ⟨("check_number", none), "check_number", "check_number", defArgs s_check_number, defBody s_check_number, defScope s_check_number, [], []⟩
def fn_10 : He.DefD := ⟨("thread_of", none), "thread_of", "thread_of", defArgs s_thread_of, defBody s_thread_of, defScope s_thread_of, [], []⟩
def fn_11 : He.DefD := ⟨("name_of", none), "name_of", "name_of", defArgs s_name_of, defBody s_name_of, defScope s_name_of, [], []⟩
def fn_12 : He.DefD := ⟨("target_of", none), "target_of", "target_of", defArgs s_target_of, defBody s_target_of, defScope s_target_of, [], []⟩
def fn_13 : He.DefD := ⟨("events_by", none), "events_by", "events_by", defArgs s_events_by, defBody s_events_by, defScope s_events_by, [], []⟩
def fn_14 : He.DefD := ⟨("accesses_by", none), "accesses_by", "accesses_by", defArgs s_accesses_by, defBody s_accesses_by, defScope s_accesses_by, [], []⟩
def fn_15 : He.DefD := ⟨("fork_by", none), "fork_by", "fork_by", defArgs s_fork_by, defBody s_fork_by, defScope s_fork_by, [], []⟩
def fn_16 : He.DefD := ⟨("previous_by", none), "previous_by", "previous_by", defArgs s_previous_by, defBody s_previous_by, defScope s_previous_by, [], []⟩
def fn_17 : He.DefD := ⟨("write_by", none), "write_by", "write_by", defArgs s_write_by, defBody s_write_by, defScope s_write_by, [], []⟩
def fn_18 : He.DefD := ⟨("end_by", none), "end_by", "end_by", defArgs s_end_by, defBody s_end_by, defScope s_end_by, [], []⟩
def fn_19 : He.DefD := ⟨("in_conflict", none), "in_conflict", "in_conflict", defArgs s_in_conflict, defBody s_in_conflict, defScope s_in_conflict, [], []⟩
def fn_20 : He.DefD := ⟨("conflicts_by", none), "conflicts_by", "conflicts_by", defArgs s_conflicts_by, defBody s_conflicts_by, defScope s_conflicts_by, [], []⟩
def fn_21 : He.DefD := ⟨("beginning", none), "beginning", "beginning", defArgs s_beginning, defBody s_beginning, defScope s_beginning, [], []⟩
def fn_22 : He.DefD := ⟨("join_by", none), "join_by", "join_by", defArgs s_join_by, defBody s_join_by, defScope s_join_by, [], []⟩
def fn_23 : He.DefD := ⟨("needs_by", none), "needs_by", "needs_by", defArgs s_needs_by, defBody s_needs_by, defScope s_needs_by, [], []⟩
def fn_24 : He.DefD := ⟨("are_blocking", none), "are_blocking", "are_blocking", defArgs s_are_blocking, defBody s_are_blocking, defScope s_are_blocking, [], []⟩
def fn_25 : He.DefD := ⟨("derivation_in", none), "derivation_in", "derivation_in", defArgs s_derivation_in, defBody s_derivation_in, defScope s_derivation_in, [], []⟩
def fn_26 : He.DefD := ⟨("derivation_by", none), "derivation_by", "derivation_by", defArgs s_derivation_by, defBody s_derivation_by, defScope s_derivation_by, [], []⟩
def fn_27 : He.DefD := ⟨("given_by", none), "given_by", "given_by", defArgs s_given_by, defBody s_given_by, defScope s_given_by, [], []⟩
def fn_28 : He.DefD := ⟨("reason_by", none), "reason_by", "reason_by", defArgs s_reason_by, defBody s_reason_by, defScope s_reason_by, [], []⟩
def fn_29 : He.DefD := ⟨("race_by", none), "race_by", "race_by", defArgs s_race_by, defBody s_race_by, defScope s_race_by, [], []⟩
def fn_30 : He.DefD := ⟨("races_by", none), "races_by", "races_by", defArgs s_races_by, defBody s_races_by, defScope s_races_by, [], []⟩
def fn_31 : He.DefD := ⟨("check_two", none), "check_two", "check_two", defArgs s_check_two, defBody s_check_two, defScope s_check_two, [], []⟩
def fn_32 : He.DefD := ⟨("is_race", none), "is_race", "is_race", defArgs s_is_race, defBody s_is_race, defScope s_is_race, [], []⟩
def fn_33 : He.DefD := ⟨("races_of", none), "races_of", "races_of", defArgs s_races_of, defBody s_races_of, defScope s_races_of, [], []⟩
def fn_34 : He.DefD := ⟨("just_before", none), "just_before", "just_before", defArgs s_just_before, defBody s_just_before, defScope s_just_before, [], []⟩
def fn_35 : He.DefD := ⟨("pasts_by", none), "pasts_by", "pasts_by", defArgs s_pasts_by, defBody s_pasts_by, defScope s_pasts_by, [], []⟩
def fn_36 : He.DefD := ⟨("unordered_by", none), "unordered_by", "unordered_by", defArgs s_unordered_by, defBody s_unordered_by, defScope s_unordered_by, [], []⟩
def fn_37 : He.DefD := ⟨("unordered_pairs", none), "unordered_pairs", "unordered_pairs", defArgs s_unordered_pairs, defBody s_unordered_pairs, defScope s_unordered_pairs, [], []⟩
def fn_38 : He.DefD := ⟨("_law_pot", none), "_law_pot", "_law_pot", defArgs s__law_pot, defBody s__law_pot, defScope s__law_pot, [], []⟩
def fn_39 : He.DefD := ⟨("_law_draw", none), "_law_draw", "_law_draw", defArgs s__law_draw, defBody s__law_draw, defScope s__law_draw, [], []⟩
def fn_40 : He.DefD := ⟨("_law_turns", none), "_law_turns", "_law_turns", defArgs s__law_turns, defBody s__law_turns, defScope s__law_turns, [], []⟩
def fn_41 : He.DefD := ⟨("_law_same", none), "_law_same", "_law_same", defArgs s__law_same, defBody s__law_same, defScope s__law_same, [], []⟩
def fn_42 : He.DefD := ⟨("_law_locks", none), "_law_locks", "_law_locks", defArgs s__law_locks, defBody s__law_locks, defScope s__law_locks, [], []⟩
def fn_43 : He.DefD := ⟨("_law_open", none), "_law_open", "_law_open", defArgs s__law_open, defBody s__law_open, defScope s__law_open, [], []⟩
def fn_44 : He.DefD := ⟨("_law_free", none), "_law_free", "_law_free", defArgs s__law_free, defBody s__law_free, defScope s__law_free, [], []⟩
def fn_45 : He.DefD := ⟨("_law_event", none), "_law_event", "_law_event", defArgs s__law_event, defBody s__law_event, defScope s__law_event, [], []⟩
def fn_46 : He.DefD := ⟨("_law_trace", none), "_law_trace", "_law_trace", defArgs s__law_trace, defBody s__law_trace, defScope s__law_trace, [], []⟩
def fn_47 : He.DefD := ⟨("_law_conflict", none), "_law_conflict", "_law_conflict", defArgs s__law_conflict, defBody s__law_conflict, defScope s__law_conflict, [], []⟩
def fn_48 : He.DefD := ⟨("law", none), "law", "law", defArgs s_law, defBody s_law, defScope s_law, [], []⟩
def fn_49 : He.DefD := ⟨("Holds", some "__init__"), "__init__", "Holds.__init__", defArgs (inClass s_Holds 0), defBody (inClass s_Holds 0), defScope (inClass s_Holds 0), [], []⟩
def fn_50 : He.DefD := ⟨("Holds", some "sharing"), "sharing", "Holds.sharing", defArgs (inClass s_Holds 1), defBody (inClass s_Holds 1), defScope (inClass s_Holds 1), [], []⟩
def fn_51 : He.DefD := ⟨("Holds", some "can"), "can", "Holds.can", defArgs (inClass s_Holds 2), defBody (inClass s_Holds 2), defScope (inClass s_Holds 2), [], []⟩
def fn_52 : He.DefD := ⟨("Holds", some "do"), "do", "Holds.do", defArgs (inClass s_Holds 3), defBody (inClass s_Holds 3), defScope (inClass s_Holds 3), [], []⟩
def fn_53 : He.DefD := ⟨("Holds", some "held_by"), "held_by", "Holds.held_by", defArgs (inClass s_Holds 4), defBody (inClass s_Holds 4), defScope (inClass s_Holds 4), [], []⟩
def fn_54 : He.DefD := ⟨("Course", some "__init__"), "__init__", "Course.__init__", defArgs (inClass s_Course 0), defBody (inClass s_Course 0), defScope (inClass s_Course 0), [], []⟩
def fn_55 : He.DefD := ⟨("Course", some "can"), "can", "Course.can", defArgs (inClass s_Course 1), defBody (inClass s_Course 1), defScope (inClass s_Course 1), [], []⟩
def fn_56 : He.DefD := ⟨("Course", some "do"), "do", "Course.do", defArgs (inClass s_Course 2), defBody (inClass s_Course 2), defScope (inClass s_Course 2), [], []⟩
def fn_57 : He.DefD := ⟨("Ties", some "__init__"), "__init__", "Ties.__init__", defArgs (inClass s_Ties 0), defBody (inClass s_Ties 0), defScope (inClass s_Ties 0), [], []⟩
def fn_58 : He.DefD := ⟨("Ties", some "ahead_of"), "ahead_of", "Ties.ahead_of", defArgs (inClass s_Ties 1), defBody (inClass s_Ties 1), defScope (inClass s_Ties 1), [], []⟩
def fn_59 : He.DefD := ⟨("Ties", some "end_wanted"), "end_wanted", "Ties.end_wanted", defArgs (inClass s_Ties 2), defBody (inClass s_Ties 2), defScope (inClass s_Ties 2), [], []⟩
def fn_60 : He.DefD := ⟨("Deriver", some "__init__"), "__init__", "Deriver.__init__", defArgs (inClass s_Deriver 0), defBody (inClass s_Deriver 0), defScope (inClass s_Deriver 0), [], []⟩
def fn_61 : He.DefD := ⟨("Deriver", some "settle"), "settle", "Deriver.settle", defArgs (inClass s_Deriver 1), defBody (inClass s_Deriver 1), defScope (inClass s_Deriver 1), [], []⟩
def fn_62 : He.DefD := ⟨("Deriver", some "add"), "add", "Deriver.add", defArgs (inClass s_Deriver 2), defBody (inClass s_Deriver 2), defScope (inClass s_Deriver 2), [], []⟩
def fn_63 : He.DefD := ⟨("Deriver", some "follow"), "follow", "Deriver.follow", defArgs (inClass s_Deriver 3), defBody (inClass s_Deriver 3), defScope (inClass s_Deriver 3), [], []⟩
def fn_64 : He.DefD := ⟨("Deriver", some "closure"), "closure", "Deriver.closure", defArgs (inClass s_Deriver 4), defBody (inClass s_Deriver 4), defScope (inClass s_Deriver 4), [], []⟩
def fn_65 : He.DefD := ⟨("Deriver", some "derivation"), "derivation", "Deriver.derivation", defArgs (inClass s_Deriver 5), defBody (inClass s_Deriver 5), defScope (inClass s_Deriver 5), [], []⟩
def hfn : List He.DefD := [fn_0, fn_1, fn_2, fn_3, fn_4, fn_5, fn_6, fn_7, fn_8, fn_9, fn_10, fn_11, fn_12, fn_13, fn_14, fn_15, fn_16, fn_17, fn_18, fn_19, fn_20, fn_21, fn_22, fn_23, fn_24, fn_25, fn_26, fn_27, fn_28, fn_29, fn_30, fn_31, fn_32, fn_33, fn_34, fn_35, fn_36, fn_37, fn_38, fn_39, fn_40, fn_41, fn_42, fn_43, fn_44, fn_45, fn_46, fn_47, fn_48, fn_49, fn_50, fn_51, fn_52, fn_53, fn_54, fn_55, fn_56, fn_57, fn_58, fn_59, fn_60, fn_61, fn_62, fn_63, fn_64, fn_65]
def hfa : List He.Fa := [.glo "_wall", .glo "is_integer", .glo "is_from", .glo "is_index", .glo "is_tuple_of", .glo "is_event", .glo "trace_fault", .glo "check_trace", .glo "check_event", .glo "check_number", .glo "thread_of", .glo "name_of", .glo "target_of", .glo "events_by", .glo "accesses_by", .glo "fork_by", .glo "previous_by", .glo "write_by", .glo "end_by", .glo "in_conflict", .glo "conflicts_by", .glo "beginning", .glo "join_by", .glo "needs_by", .glo "are_blocking", .glo "derivation_in", .glo "derivation_by", .glo "given_by", .glo "reason_by", .glo "race_by", .glo "races_by", .glo "check_two", .glo "is_race", .glo "races_of", .glo "just_before", .glo "pasts_by", .glo "unordered_by", .glo "unordered_pairs", .glo "_law_pot", .glo "_law_draw", .glo "_law_turns", .glo "_law_same", .glo "_law_locks", .glo "_law_open", .glo "_law_free", .glo "_law_event", .glo "_law_trace", .glo "_law_conflict", .glo "law", .str "ACQUIRE" "acquire", .str "RELEASE" "release", .str "SHARE" "share", .str "UNSHARE" "unshare", .str "READ" "read", .str "WRITE" "write", .str "FORK" "fork", .str "JOIN" "join", .glo "TAKING", .glo "OF_LOCKS", .glo "ACCESSES", .glo "OF_THREADS", .glo "NAMES", .glo "ENDS", .cls "Holds", .glo "Holds", .mkr "Holds", .meth "Holds" "sharing", .meth "Holds" "can", .meth "Holds" "do", .meth "Holds" "held_by", .noat "Holds" "alone", .noat "Holds" "shared", .cls "Course", .glo "Course", .mkr "Course", .meth "Course" "can", .meth "Course" "do", .noat "Course" "holds", .noat "Course" "begun", .noat "Course" "forked", .noat "Course" "joined", .cls "Ties", .glo "Ties", .mkr "Ties", .meth "Ties" "ahead_of", .meth "Ties" "end_wanted", .noat "Ties" "base", .noat "Ties" "needs", .noat "Ties" "ends", .str "GIVEN" "given", .str "NEED" "need", .str "END" "end", .cls "Deriver", .glo "Deriver", .mkr "Deriver", .meth "Deriver" "settle", .meth "Deriver" "add", .meth "Deriver" "follow", .meth "Deriver" "closure", .meth "Deriver" "derivation", .noat "Deriver" "ties", .noat "Deriver" "steps", .noat "Deriver" "waiting", .free "len", .free "range", .free "enumerate", .free "sorted", .free "int", .free "str", .free "bool", .free "list", .free "tuple", .free "isinstance", .free "abs", .free "max", .free "min", .free "all"]
def tb_0 : He.Tab := (fun K => He.ga K "ENDS", ["acquire", "share"])
def hts : List He.Tab := [tb_0]
def hx_0 (K : PySem.W.Frag) : Bool := He.tupB K "TAKING" [.str "acquire", .str "share"]
def hx_1 (K : PySem.W.Frag) : Bool := He.tupB K "OF_LOCKS" [.str "acquire", .str "release", .str "share", .str "unshare"]
def hx_2 (K : PySem.W.Frag) : Bool := He.tupB K "ACCESSES" [.str "read", .str "write"]
def hx_3 (K : PySem.W.Frag) : Bool := He.tupB K "OF_THREADS" [.str "fork", .str "join"]
def hx_4 (K : PySem.W.Frag) : Bool := He.tupB K "NAMES" [.str "acquire", .str "release", .str "share", .str "unshare", .str "read", .str "write", .str "fork", .str "join"]
def hx_5 (K : PySem.W.Frag) : Bool := He.valsB K (He.ga K "ENDS") [("acquire", .str "release"), ("share", .str "unshare")]
def hex (K : PySem.W.Frag) : Bool := (hx_0 K && (hx_1 K && (hx_2 K && (hx_3 K && (hx_4 K && (hx_5 K && true))))))
theorem ex_0 {K : PySem.W.Frag} (h : hex K = true) : hx_0 K = true := by
  simp only [hex, Bool.and_eq_true] at h
  exact h.1
theorem ex_1 {K : PySem.W.Frag} (h : hex K = true) : hx_1 K = true := by
  simp only [hex, Bool.and_eq_true] at h
  exact h.2.1
theorem ex_2 {K : PySem.W.Frag} (h : hex K = true) : hx_2 K = true := by
  simp only [hex, Bool.and_eq_true] at h
  exact h.2.2.1
theorem ex_3 {K : PySem.W.Frag} (h : hex K = true) : hx_3 K = true := by
  simp only [hex, Bool.and_eq_true] at h
  exact h.2.2.2.1
theorem ex_4 {K : PySem.W.Frag} (h : hex K = true) : hx_4 K = true := by
  simp only [hex, Bool.and_eq_true] at h
  exact h.2.2.2.2.1
theorem ex_5 {K : PySem.W.Frag} (h : hex K = true) : hx_5 K = true := by
  simp only [hex, Bool.and_eq_true] at h
  exact h.2.2.2.2.2.1
def loose_0 : List Str := ["_wall", "is_integer", "is_from", "is_index", "is_tuple_of", "TraceError", "InvalidTrace", "InvalidEvent", "InvalidNumber", "ACQUIRE", "RELEASE", "SHARE", "UNSHARE", "READ", "WRITE", "FORK", "JOIN", "TAKING", "OF_LOCKS", "ACCESSES", "OF_THREADS", "NAMES", "ENDS", "is_event", "Holds", "Course", "trace_fault", "check_trace", "check_event", "check_number"]
def loose_1 : List Str := ["thread_of", "name_of", "target_of", "events_by", "accesses_by", "fork_by", "previous_by", "write_by", "end_by", "in_conflict", "conflicts_by", "beginning", "join_by", "needs_by", "are_blocking", "Ties", "GIVEN", "NEED", "END", "Deriver", "derivation_in", "derivation_by", "given_by", "reason_by", "race_by", "races_by", "check_two", "is_race", "races_of", "just_before"]
def loose_2 : List Str := ["pasts_by", "unordered_by", "unordered_pairs", "_law_pot", "_law_draw", "_law_turns", "_law_same", "_law_locks", "_law_open", "_law_free", "_law_event", "_law_trace", "_law_conflict"]
def looseN : List Str := loose_0 ++ loose_1 ++ loose_2
abbrev hR : PySem.W.OpenRow := PySem.W.OpenLaw.row PySem.Challenge.rw_runforetold_k23_whole_first_unordered_pa
abbrev hH : PySem.W.Hook := He.hookX 5 hfa hfn hts [] hex
def hob (s : PySem.W.SharedT) : He.AlX := He.obsX 5 hfa hfn hts [] hex (HandSHeadRun.getT s)
theorem hob_eq (s : PySem.W.SharedT) : hob s = hH.obs s.abs := He.obsX_eq (HandSHeadRun.getT_eq s)
theorem hrun_f (w : World) : HandSHeadRun.RunEq hR (PySem.W.view hR.prog [81]) hH hob 4000 looseN (w.withFollow "special-get-raises" false) := fun os => by
  kernel_rfl
theorem hrun_t (w : World) : HandSHeadRun.RunEq hR (PySem.W.view hR.prog [81]) hH hob 4000 looseN (w.withFollow "special-get-raises" true) := fun os => by
  kernel_rfl
theorem hrun (w : World) : HandSHeadRun.RunEq hR (PySem.W.view hR.prog [81]) hH hob 4000 looseN w := PySem.W.byRow2 "special-get-raises" (P := fun w => HandSHeadRun.RunEq hR (PySem.W.view hR.prog [81]) hH hob 4000 looseN w) hrun_f hrun_t w
end DL
namespace DL
open PySem PySem.Spec PyProof.Rows L2
theorem dv_has {K : PySem.W.Frag} {H : Hp} : ∀ {xs : List He.Dv} {ds : List Dt}, (xs.zip ds).all (fun p => match p.1, p.2 with | .str x, .str y => decide (x = y) | .int i, .int j => decide (i = j) | _, _ => false) = true → xs.length = ds.length → HasL K H ds (xs.map (He.Dv.v K))
  | [], [], _, _ => rfl
  | [], _ :: _, _, h => by simp at h
  | _ :: _, [], _, h => by simp at h
  | x :: xs, d :: ds, h, hl => by
    rw [List.zip_cons_cons, List.all_cons, Bool.and_eq_true] at h
    refine ⟨_, _, rfl, ?_, dv_has h.2 (by simpa using hl)⟩
    have h1 := h.1
    cases x with
    | str s => cases d with
      | str z => exact congrArg V.str (of_decide_eq_true h1)
      | _ => cases h1
    | int s => cases d with
      | int z => exact congrArg V.int (of_decide_eq_true h1)
      | _ => cases h1
    | _ => cases d <;> cases h1
theorem top_tup {K : PySem.W.Frag} {x : Str} {vs : List He.Dv} {ds : List Dt} (h : He.tupB K x vs = true) (hd : (vs.zip ds).all (fun p => match p.1, p.2 with | .str x, .str y => decide (x = y) | .int i, .int j => decide (i = j) | _, _ => false) = true := by decide) (hl : vs.length = ds.length := by rfl) : ∃ us, KTup K (He.ga K x) us ∧ ∀ H, HasL K H ds us := by
  rcases He.tupB_ok h (fun _ => none) with z | z
  · rcases z with z | ⟨o, z⟩ <;> cases z
  · exact ⟨_, z, fun H => dv_has hd hl⟩
theorem top_dct {w : World} {K : PySem.W.Frag} {p : Addr} {z : Str} {v : V} (h : ∃ es n, KDict K w (He.ga K "ENDS") es n) (hv : He.valsB K (He.ga K "ENDS") [("acquire", .str "release"), ("share", .str "unshare")] = true) (hk : kd_ENDS K p z v) : KDct K w p z v := by
  obtain ⟨es, n, h1, h2, _⟩ := h
  obtain ⟨rfl, hk⟩ := hk
  have key : ∀ q ∈ ([("acquire", .str "release"), ("share", .str "unshare")] : List (Str × He.Dv)), ∃ u, PySem.W.nsIn K (He.ga K "ENDS") q.1 = some (some u) ∧ RelV (q.2.v K) u := fun q hq => He.valsB_ok hv hq
  rcases hk with ⟨rfl, rfl⟩ | ⟨rfl, rfl⟩
  · obtain ⟨u, a, b⟩ := key ("acquire", .str "release") (List.mem_cons_self)
    exact ⟨es, n, u, h1, h2, a, b⟩
  · obtain ⟨u, a, b⟩ := key ("share", .str "unshare") (List.mem_cons_of_mem _ (List.mem_cons_self))
    exact ⟨es, n, u, h1, h2, a, b⟩
theorem head_txt {w : World} {K : PySem.W.Frag} {h : Heap} {mg : Str → Option Value} (X : K.In h) (G : h.Ns mainGlobals mg) (C : He.SaysX hfa hfn hts [] hex w h K) : Txt w K mg := by
  have D := C.t.d
  exact {
  fn__wall := by
    obtain ⟨fd, F⟩ := D.def_ 0 (d := fn_0) rfl
    exact ⟨_, fd, F, He.glo_ok X G (D.fact 0 (f := .glo "_wall") rfl)⟩,
  fn_is_integer := by
    obtain ⟨fd, F⟩ := D.def_ 1 (d := fn_1) rfl
    exact ⟨_, fd, F, He.glo_ok X G (D.fact 1 (f := .glo "is_integer") rfl)⟩,
  fn_is_from := by
    obtain ⟨fd, F⟩ := D.def_ 2 (d := fn_2) rfl
    exact ⟨_, fd, F, He.glo_ok X G (D.fact 2 (f := .glo "is_from") rfl)⟩,
  fn_is_index := by
    obtain ⟨fd, F⟩ := D.def_ 3 (d := fn_3) rfl
    exact ⟨_, fd, F, He.glo_ok X G (D.fact 3 (f := .glo "is_index") rfl)⟩,
  fn_is_tuple_of := by
    obtain ⟨fd, F⟩ := D.def_ 4 (d := fn_4) rfl
    exact ⟨_, fd, F, He.glo_ok X G (D.fact 4 (f := .glo "is_tuple_of") rfl)⟩,
  fn_is_event := by
    obtain ⟨fd, F⟩ := D.def_ 5 (d := fn_5) rfl
    exact ⟨_, fd, F, He.glo_ok X G (D.fact 5 (f := .glo "is_event") rfl)⟩,
  fn_trace_fault := by
    obtain ⟨fd, F⟩ := D.def_ 6 (d := fn_6) rfl
    exact ⟨_, fd, F, He.glo_ok X G (D.fact 6 (f := .glo "trace_fault") rfl)⟩,
  fn_check_trace := by
    obtain ⟨fd, F⟩ := D.def_ 7 (d := fn_7) rfl
    exact ⟨_, fd, F, He.glo_ok X G (D.fact 7 (f := .glo "check_trace") rfl)⟩,
  fn_check_event := by
    obtain ⟨fd, F⟩ := D.def_ 8 (d := fn_8) rfl
    exact ⟨_, fd, F, He.glo_ok X G (D.fact 8 (f := .glo "check_event") rfl)⟩,
  fn_check_number := by
    obtain ⟨fd, F⟩ := D.def_ 9 (d := fn_9) rfl
    exact ⟨_, fd, F, He.glo_ok X G (D.fact 9 (f := .glo "check_number") rfl)⟩,
  fn_thread_of := by
    obtain ⟨fd, F⟩ := D.def_ 10 (d := fn_10) rfl
    exact ⟨_, fd, F, He.glo_ok X G (D.fact 10 (f := .glo "thread_of") rfl)⟩,
  fn_name_of := by
    obtain ⟨fd, F⟩ := D.def_ 11 (d := fn_11) rfl
    exact ⟨_, fd, F, He.glo_ok X G (D.fact 11 (f := .glo "name_of") rfl)⟩,
  fn_target_of := by
    obtain ⟨fd, F⟩ := D.def_ 12 (d := fn_12) rfl
    exact ⟨_, fd, F, He.glo_ok X G (D.fact 12 (f := .glo "target_of") rfl)⟩,
  fn_events_by := by
    obtain ⟨fd, F⟩ := D.def_ 13 (d := fn_13) rfl
    exact ⟨_, fd, F, He.glo_ok X G (D.fact 13 (f := .glo "events_by") rfl)⟩,
  fn_accesses_by := by
    obtain ⟨fd, F⟩ := D.def_ 14 (d := fn_14) rfl
    exact ⟨_, fd, F, He.glo_ok X G (D.fact 14 (f := .glo "accesses_by") rfl)⟩,
  fn_fork_by := by
    obtain ⟨fd, F⟩ := D.def_ 15 (d := fn_15) rfl
    exact ⟨_, fd, F, He.glo_ok X G (D.fact 15 (f := .glo "fork_by") rfl)⟩,
  fn_previous_by := by
    obtain ⟨fd, F⟩ := D.def_ 16 (d := fn_16) rfl
    exact ⟨_, fd, F, He.glo_ok X G (D.fact 16 (f := .glo "previous_by") rfl)⟩,
  fn_write_by := by
    obtain ⟨fd, F⟩ := D.def_ 17 (d := fn_17) rfl
    exact ⟨_, fd, F, He.glo_ok X G (D.fact 17 (f := .glo "write_by") rfl)⟩,
  fn_end_by := by
    obtain ⟨fd, F⟩ := D.def_ 18 (d := fn_18) rfl
    exact ⟨_, fd, F, He.glo_ok X G (D.fact 18 (f := .glo "end_by") rfl)⟩,
  fn_in_conflict := by
    obtain ⟨fd, F⟩ := D.def_ 19 (d := fn_19) rfl
    exact ⟨_, fd, F, He.glo_ok X G (D.fact 19 (f := .glo "in_conflict") rfl)⟩,
  fn_conflicts_by := by
    obtain ⟨fd, F⟩ := D.def_ 20 (d := fn_20) rfl
    exact ⟨_, fd, F, He.glo_ok X G (D.fact 20 (f := .glo "conflicts_by") rfl)⟩,
  fn_beginning := by
    obtain ⟨fd, F⟩ := D.def_ 21 (d := fn_21) rfl
    exact ⟨_, fd, F, He.glo_ok X G (D.fact 21 (f := .glo "beginning") rfl)⟩,
  fn_join_by := by
    obtain ⟨fd, F⟩ := D.def_ 22 (d := fn_22) rfl
    exact ⟨_, fd, F, He.glo_ok X G (D.fact 22 (f := .glo "join_by") rfl)⟩,
  fn_needs_by := by
    obtain ⟨fd, F⟩ := D.def_ 23 (d := fn_23) rfl
    exact ⟨_, fd, F, He.glo_ok X G (D.fact 23 (f := .glo "needs_by") rfl)⟩,
  fn_are_blocking := by
    obtain ⟨fd, F⟩ := D.def_ 24 (d := fn_24) rfl
    exact ⟨_, fd, F, He.glo_ok X G (D.fact 24 (f := .glo "are_blocking") rfl)⟩,
  fn_derivation_in := by
    obtain ⟨fd, F⟩ := D.def_ 25 (d := fn_25) rfl
    exact ⟨_, fd, F, He.glo_ok X G (D.fact 25 (f := .glo "derivation_in") rfl)⟩,
  fn_derivation_by := by
    obtain ⟨fd, F⟩ := D.def_ 26 (d := fn_26) rfl
    exact ⟨_, fd, F, He.glo_ok X G (D.fact 26 (f := .glo "derivation_by") rfl)⟩,
  fn_given_by := by
    obtain ⟨fd, F⟩ := D.def_ 27 (d := fn_27) rfl
    exact ⟨_, fd, F, He.glo_ok X G (D.fact 27 (f := .glo "given_by") rfl)⟩,
  fn_reason_by := by
    obtain ⟨fd, F⟩ := D.def_ 28 (d := fn_28) rfl
    exact ⟨_, fd, F, He.glo_ok X G (D.fact 28 (f := .glo "reason_by") rfl)⟩,
  fn_race_by := by
    obtain ⟨fd, F⟩ := D.def_ 29 (d := fn_29) rfl
    exact ⟨_, fd, F, He.glo_ok X G (D.fact 29 (f := .glo "race_by") rfl)⟩,
  fn_races_by := by
    obtain ⟨fd, F⟩ := D.def_ 30 (d := fn_30) rfl
    exact ⟨_, fd, F, He.glo_ok X G (D.fact 30 (f := .glo "races_by") rfl)⟩,
  fn_check_two := by
    obtain ⟨fd, F⟩ := D.def_ 31 (d := fn_31) rfl
    exact ⟨_, fd, F, He.glo_ok X G (D.fact 31 (f := .glo "check_two") rfl)⟩,
  fn_is_race := by
    obtain ⟨fd, F⟩ := D.def_ 32 (d := fn_32) rfl
    exact ⟨_, fd, F, He.glo_ok X G (D.fact 32 (f := .glo "is_race") rfl)⟩,
  fn_races_of := by
    obtain ⟨fd, F⟩ := D.def_ 33 (d := fn_33) rfl
    exact ⟨_, fd, F, He.glo_ok X G (D.fact 33 (f := .glo "races_of") rfl)⟩,
  fn_just_before := by
    obtain ⟨fd, F⟩ := D.def_ 34 (d := fn_34) rfl
    exact ⟨_, fd, F, He.glo_ok X G (D.fact 34 (f := .glo "just_before") rfl)⟩,
  fn_pasts_by := by
    obtain ⟨fd, F⟩ := D.def_ 35 (d := fn_35) rfl
    exact ⟨_, fd, F, He.glo_ok X G (D.fact 35 (f := .glo "pasts_by") rfl)⟩,
  fn_unordered_by := by
    obtain ⟨fd, F⟩ := D.def_ 36 (d := fn_36) rfl
    exact ⟨_, fd, F, He.glo_ok X G (D.fact 36 (f := .glo "unordered_by") rfl)⟩,
  fn_unordered_pairs := by
    obtain ⟨fd, F⟩ := D.def_ 37 (d := fn_37) rfl
    exact ⟨_, fd, F, He.glo_ok X G (D.fact 37 (f := .glo "unordered_pairs") rfl)⟩,
  fn__law_pot := by
    obtain ⟨fd, F⟩ := D.def_ 38 (d := fn_38) rfl
    exact ⟨_, fd, F, He.glo_ok X G (D.fact 38 (f := .glo "_law_pot") rfl)⟩,
  fn__law_draw := by
    obtain ⟨fd, F⟩ := D.def_ 39 (d := fn_39) rfl
    exact ⟨_, fd, F, He.glo_ok X G (D.fact 39 (f := .glo "_law_draw") rfl)⟩,
  fn__law_turns := by
    obtain ⟨fd, F⟩ := D.def_ 40 (d := fn_40) rfl
    exact ⟨_, fd, F, He.glo_ok X G (D.fact 40 (f := .glo "_law_turns") rfl)⟩,
  fn__law_same := by
    obtain ⟨fd, F⟩ := D.def_ 41 (d := fn_41) rfl
    exact ⟨_, fd, F, He.glo_ok X G (D.fact 41 (f := .glo "_law_same") rfl)⟩,
  fn__law_locks := by
    obtain ⟨fd, F⟩ := D.def_ 42 (d := fn_42) rfl
    exact ⟨_, fd, F, He.glo_ok X G (D.fact 42 (f := .glo "_law_locks") rfl)⟩,
  fn__law_open := by
    obtain ⟨fd, F⟩ := D.def_ 43 (d := fn_43) rfl
    exact ⟨_, fd, F, He.glo_ok X G (D.fact 43 (f := .glo "_law_open") rfl)⟩,
  fn__law_free := by
    obtain ⟨fd, F⟩ := D.def_ 44 (d := fn_44) rfl
    exact ⟨_, fd, F, He.glo_ok X G (D.fact 44 (f := .glo "_law_free") rfl)⟩,
  fn__law_event := by
    obtain ⟨fd, F⟩ := D.def_ 45 (d := fn_45) rfl
    exact ⟨_, fd, F, He.glo_ok X G (D.fact 45 (f := .glo "_law_event") rfl)⟩,
  fn__law_trace := by
    obtain ⟨fd, F⟩ := D.def_ 46 (d := fn_46) rfl
    exact ⟨_, fd, F, He.glo_ok X G (D.fact 46 (f := .glo "_law_trace") rfl)⟩,
  fn__law_conflict := by
    obtain ⟨fd, F⟩ := D.def_ 47 (d := fn_47) rfl
    exact ⟨_, fd, F, He.glo_ok X G (D.fact 47 (f := .glo "_law_conflict") rfl)⟩,
  fn_law := by
    obtain ⟨fd, F⟩ := D.def_ 48 (d := fn_48) rfl
    exact ⟨_, fd, F, He.glo_ok X G (D.fact 48 (f := .glo "law") rfl)⟩,
  c_ACQUIRE := He.str_ok X G (D.fact 49 (f := .str "ACQUIRE" "acquire") rfl),
  c_RELEASE := He.str_ok X G (D.fact 50 (f := .str "RELEASE" "release") rfl),
  c_SHARE := He.str_ok X G (D.fact 51 (f := .str "SHARE" "share") rfl),
  c_UNSHARE := He.str_ok X G (D.fact 52 (f := .str "UNSHARE" "unshare") rfl),
  c_READ := He.str_ok X G (D.fact 53 (f := .str "READ" "read") rfl),
  c_WRITE := He.str_ok X G (D.fact 54 (f := .str "WRITE" "write") rfl),
  c_FORK := He.str_ok X G (D.fact 55 (f := .str "FORK" "fork") rfl),
  c_JOIN := He.str_ok X G (D.fact 56 (f := .str "JOIN" "join") rfl),
  c_TAKING := He.glo_ok X G (D.fact 57 (f := .glo "TAKING") rfl),
  c_OF_LOCKS := He.glo_ok X G (D.fact 58 (f := .glo "OF_LOCKS") rfl),
  c_ACCESSES := He.glo_ok X G (D.fact 59 (f := .glo "ACCESSES") rfl),
  c_OF_THREADS := He.glo_ok X G (D.fact 60 (f := .glo "OF_THREADS") rfl),
  c_NAMES := He.glo_ok X G (D.fact 61 (f := .glo "NAMES") rfl),
  c_ENDS := He.glo_ok X G (D.fact 62 (f := .glo "ENDS") rfl),
  cl_Holds := He.cls_ok (D.fact 63 (f := .cls "Holds") rfl),
  c_Holds := He.glo_ok X G (D.fact 64 (f := .glo "Holds") rfl),
  mk_Holds := He.mkr_ok (D.fact 65 (f := .mkr "Holds") rfl),
  in_Holds := D.def_ 49 (d := fn_49) rfl,
  mt_Holds_sharing := by
    obtain ⟨fd, F⟩ := D.def_ 50 (d := fn_50) rfl
    exact ⟨_, fd, He.meth_ok (D.fact 66 (f := .meth "Holds" "sharing") rfl), F⟩,
  mt_Holds_can := by
    obtain ⟨fd, F⟩ := D.def_ 51 (d := fn_51) rfl
    exact ⟨_, fd, He.meth_ok (D.fact 67 (f := .meth "Holds" "can") rfl), F⟩,
  mt_Holds_do := by
    obtain ⟨fd, F⟩ := D.def_ 52 (d := fn_52) rfl
    exact ⟨_, fd, He.meth_ok (D.fact 68 (f := .meth "Holds" "do") rfl), F⟩,
  mt_Holds_held_by := by
    obtain ⟨fd, F⟩ := D.def_ 53 (d := fn_53) rfl
    exact ⟨_, fd, He.meth_ok (D.fact 69 (f := .meth "Holds" "held_by") rfl), F⟩,
  na_Holds_alone := He.noat_ok (D.fact 70 (f := .noat "Holds" "alone") rfl),
  na_Holds_shared := He.noat_ok (D.fact 71 (f := .noat "Holds" "shared") rfl),
  cl_Course := He.cls_ok (D.fact 72 (f := .cls "Course") rfl),
  c_Course := He.glo_ok X G (D.fact 73 (f := .glo "Course") rfl),
  mk_Course := He.mkr_ok (D.fact 74 (f := .mkr "Course") rfl),
  in_Course := D.def_ 54 (d := fn_54) rfl,
  mt_Course_can := by
    obtain ⟨fd, F⟩ := D.def_ 55 (d := fn_55) rfl
    exact ⟨_, fd, He.meth_ok (D.fact 75 (f := .meth "Course" "can") rfl), F⟩,
  mt_Course_do := by
    obtain ⟨fd, F⟩ := D.def_ 56 (d := fn_56) rfl
    exact ⟨_, fd, He.meth_ok (D.fact 76 (f := .meth "Course" "do") rfl), F⟩,
  na_Course_holds := He.noat_ok (D.fact 77 (f := .noat "Course" "holds") rfl),
  na_Course_begun := He.noat_ok (D.fact 78 (f := .noat "Course" "begun") rfl),
  na_Course_forked := He.noat_ok (D.fact 79 (f := .noat "Course" "forked") rfl),
  na_Course_joined := He.noat_ok (D.fact 80 (f := .noat "Course" "joined") rfl),
  cl_Ties := He.cls_ok (D.fact 81 (f := .cls "Ties") rfl),
  c_Ties := He.glo_ok X G (D.fact 82 (f := .glo "Ties") rfl),
  mk_Ties := He.mkr_ok (D.fact 83 (f := .mkr "Ties") rfl),
  in_Ties := D.def_ 57 (d := fn_57) rfl,
  mt_Ties_ahead_of := by
    obtain ⟨fd, F⟩ := D.def_ 58 (d := fn_58) rfl
    exact ⟨_, fd, He.meth_ok (D.fact 84 (f := .meth "Ties" "ahead_of") rfl), F⟩,
  mt_Ties_end_wanted := by
    obtain ⟨fd, F⟩ := D.def_ 59 (d := fn_59) rfl
    exact ⟨_, fd, He.meth_ok (D.fact 85 (f := .meth "Ties" "end_wanted") rfl), F⟩,
  na_Ties_base := He.noat_ok (D.fact 86 (f := .noat "Ties" "base") rfl),
  na_Ties_needs := He.noat_ok (D.fact 87 (f := .noat "Ties" "needs") rfl),
  na_Ties_ends := He.noat_ok (D.fact 88 (f := .noat "Ties" "ends") rfl),
  c_GIVEN := He.str_ok X G (D.fact 89 (f := .str "GIVEN" "given") rfl),
  c_NEED := He.str_ok X G (D.fact 90 (f := .str "NEED" "need") rfl),
  c_END := He.str_ok X G (D.fact 91 (f := .str "END" "end") rfl),
  cl_Deriver := He.cls_ok (D.fact 92 (f := .cls "Deriver") rfl),
  c_Deriver := He.glo_ok X G (D.fact 93 (f := .glo "Deriver") rfl),
  mk_Deriver := He.mkr_ok (D.fact 94 (f := .mkr "Deriver") rfl),
  in_Deriver := D.def_ 60 (d := fn_60) rfl,
  mt_Deriver_settle := by
    obtain ⟨fd, F⟩ := D.def_ 61 (d := fn_61) rfl
    exact ⟨_, fd, He.meth_ok (D.fact 95 (f := .meth "Deriver" "settle") rfl), F⟩,
  mt_Deriver_add := by
    obtain ⟨fd, F⟩ := D.def_ 62 (d := fn_62) rfl
    exact ⟨_, fd, He.meth_ok (D.fact 96 (f := .meth "Deriver" "add") rfl), F⟩,
  mt_Deriver_follow := by
    obtain ⟨fd, F⟩ := D.def_ 63 (d := fn_63) rfl
    exact ⟨_, fd, He.meth_ok (D.fact 97 (f := .meth "Deriver" "follow") rfl), F⟩,
  mt_Deriver_closure := by
    obtain ⟨fd, F⟩ := D.def_ 64 (d := fn_64) rfl
    exact ⟨_, fd, He.meth_ok (D.fact 98 (f := .meth "Deriver" "closure") rfl), F⟩,
  mt_Deriver_derivation := by
    obtain ⟨fd, F⟩ := D.def_ 65 (d := fn_65) rfl
    exact ⟨_, fd, He.meth_ok (D.fact 99 (f := .meth "Deriver" "derivation") rfl), F⟩,
  na_Deriver_ties := He.noat_ok (D.fact 100 (f := .noat "Deriver" "ties") rfl),
  na_Deriver_steps := He.noat_ok (D.fact 101 (f := .noat "Deriver" "steps") rfl),
  na_Deriver_waiting := He.noat_ok (D.fact 102 (f := .noat "Deriver" "waiting") rfl),
  b_len := He.free_ok X G (D.fact 103 (f := .free "len") rfl),
  b_range := He.free_ok X G (D.fact 104 (f := .free "range") rfl),
  b_enumerate := He.free_ok X G (D.fact 105 (f := .free "enumerate") rfl),
  b_sorted := He.free_ok X G (D.fact 106 (f := .free "sorted") rfl),
  b_int := He.free_ok X G (D.fact 107 (f := .free "int") rfl),
  b_str := He.free_ok X G (D.fact 108 (f := .free "str") rfl),
  b_bool := He.free_ok X G (D.fact 109 (f := .free "bool") rfl),
  b_list := He.free_ok X G (D.fact 110 (f := .free "list") rfl),
  b_tuple := He.free_ok X G (D.fact 111 (f := .free "tuple") rfl),
  b_isinstance := He.free_ok X G (D.fact 112 (f := .free "isinstance") rfl),
  b_abs := He.free_ok X G (D.fact 113 (f := .free "abs") rfl),
  b_max := He.free_ok X G (D.fact 114 (f := .free "max") rfl),
  b_min := He.free_ok X G (D.fact 115 (f := .free "min") rfl),
  b_all := He.free_ok X G (D.fact 116 (f := .free "all") rfl),
  k_TAKING := top_tup (ex_0 C.more),
  k_OF_LOCKS := top_tup (ex_1 C.more),
  k_ACCESSES := top_tup (ex_2 C.more),
  k_OF_THREADS := top_tup (ex_3 C.more),
  k_NAMES := top_tup (ex_4 C.more),
  k_ENDS := fun p z v hk => top_dct (C.t.tab 0 (t := tb_0) rfl) (ex_5 C.more) hk }
def spL (K : PySem.W.Frag) : Sp := fun vs H Q _ => ∃ (a : Addr) (ns : List Int), vs = [.ref a] ∧ SqL K H a (ns.map V.int) ∧ ns.length ≤ 100000 ∧ ∀ H', Q (.bl true) H'
theorem spL_law {K : PySem.W.Frag} {vs : List V} {H : Hp} {Q : VK} {E : XK} (h : spL K vs H Q E) : sp_law K vs H Q E := by
  obtain ⟨a, ns, rfl, hs, hl, q⟩ := h
  refine ⟨ns, [], fun _ z => (by cases z), ⟨_, _, rfl, ⟨a, ns.map V.int, rfl, by rw [cut_nil]; exact hs, HasL.of_ints⟩, rfl⟩, hl, fun v H' _ hv => ?_⟩
  cases (show v = _ from hv)
  exact q H'
theorem head_facts {P : Program} {w : World} {K : PySem.W.Frag} {h : Heap} {mg : Str → Option Value} {f : Addr} (X : K.In h) (G : h.Ns mainGlobals mg) (hlaw : mg ("law" : Str) = some (.ref f)) (C : He.SaysX hfa hfn hts [] hex w h K) :
    ∃ fd : FuncData, (∀ (s : Shared) (v : Value), BindsTo s fd ⟨[v], []⟩ [("script", v)]) ∧ ∀ base : Heap, K.In base → base.Ns mainGlobals mg → FnOk P w K mg base CX0 27 f fd ["script"] (spL K) := by
  have T := head_txt X G C
  obtain ⟨f1, fd, F, gl⟩ := T.fn_law
  have e := hlaw.symm.trans gl
  cases e
  have b := FunD.bindsA (ps := ["script"]) F fun _ _ _ _ _ _ us hl => match us, hl with | [_], _ => rfl
  refine ⟨fd, fun s v => b s [v] rfl, fun base _ _ => FnOk.imp ?_ fun vs H Q E h => spL_law h⟩
  exact fn_f F sc_law (fun _ => rfl) (t_law K) (fun cdv A outer s H E hr => (pss_cons (ps_for PassesOwn.never rfl (pi_seq (pe_callD (ok__law_turns T) hr (by decide) (by rfl) (pa_cons (pv 0) (pa_cons pe_int (pa_cons pe_int pa_nil))))) (pg_name (i := 1) sc_law.nd rfl (by first | exact Or.inl rfl | exact Or.inr rfl)) (pss_cons (ps_set (i := 2) sc_law.nd rfl (by first | exact Or.inl rfl | exact Or.inr rfl) (pe_callD (ok__law_pot T) hr (by decide) (by rfl) (pa_cons (pv 0) (pa_cons (pv 1) pa_nil)))) (pss_cons (ps_set (i := 3) sc_law.nd rfl (by first | exact Or.inl rfl | exact Or.inr rfl) (pe_callD (ok__law_trace T) hr (by decide) (by rfl) (pa_cons (pv 2) (pa_cons pe_int (pa_cons (pe_tup (pa_cons pe_int (pa_cons pe_int (pa_cons pe_int pa_nil)))) pa_nil))))) (pss_cons (ps_asg (pe_tup (pa_cons (pe_callD (ok_unordered_pairs T) hr (by decide) (by rfl) (pa_cons (pv 3) pa_nil)) (pa_cons (pe_callD (ok_races_of T) hr (by decide) (by rfl) (pa_cons (pv 3) pa_nil)) pa_nil))) (pg_tup rfl (pgs_cons (pg_name (i := 4) sc_law.nd rfl (by first | exact Or.inl rfl | exact Or.inr rfl)) (pgs_cons (pg_name (i := 5) sc_law.nd rfl (by first | exact Or.inl rfl | exact Or.inr rfl)) pgs_nil)))) (pss_cons (ps_set (i := 6) sc_law.nd rfl (by first | exact Or.inl rfl | exact Or.inr rfl) (pe_callB (cr_min rfl) (by rfl) T.b_min (by decide +kernel) (pa_cons (pe_op op_addA (pe_lc (own := [("i", 9), ("j", 10)]) rfl sc_law.nd (pi_seq (pv 4)) (blkOk_by (by kernel_rfl)) (fun _ _ _ _ _ => (pg_tup rfl (pgs_cons (pg_name (i := 9) sc_law.nd rfl (by first | exact Or.inl rfl | exact Or.inr rfl)) (pgs_cons (pg_name (i := 10) sc_law.nd rfl (by first | exact Or.inl rfl | exact Or.inr rfl)) pgs_nil)))) (fun _ _ _ _ _ => pts_nil) (fun _ _ _ _ _ => (pv 10))) (pe_lst (pa_cons (pe_callB call_len (by rfl) T.b_len (by decide +kernel) (pa_cons (pv 3) pa_nil)) pa_nil))) pa_nil))) (pss_cons (ps_if (pt_cmpR (op_neA (hu65 hr)) (pe_lc (own := [("pair", 11)]) rfl sc_law.nd (pi_seq (pv 4)) (blkOk_by (by kernel_rfl)) (fun _ _ _ _ _ => (pg_name (i := 11) sc_law.nd rfl (by first | exact Or.inl rfl | exact Or.inr rfl))) (fun _ _ _ _ _ => (pts_one (PW.pt (pw_and (pt_cmpR (op_eqA (hu65 hr)) (pe_ix ix_seq (pv 11) pe_int (fun _ _ => rfl)) (pv 6) (nomark _)) (pw_and1 (PW.pt (pw_or (pt_cmpR (op_notinA (hu65 hr)) (pv 11) (pv 5) (by rfl)) (pw_or1 (pt_cmpR op_isnot_bl (pe_callD (ok_is_race T) hr (by decide) (by rfl) (pa_cons (pv 3) (pa_cons (pe_ix ix_seq (pv 11) pe_int (fun _ _ => rfl)) (pa_cons (pe_ix ix_seq (pv 11) pe_int (fun _ _ => rfl)) pa_nil)))) pe_bl (nomark _)))))))))) (fun _ _ _ _ _ => (pv 11))) (pe_lst pa_nil) (nomark _)) (pss_one (ps_ret pe_bl)) pss_nil) (pss_cons (ps_for PassesOwn.never rfl (pi_seq (pe_tup (pa_cons (pe_callD (ok__law_draw T) hr (by decide) (by rfl) (pa_cons (pv 2) (pa_cons (pe_op op_addA (pe_callB call_len (by rfl) T.b_len (by decide +kernel) (pa_cons (pv 3) pa_nil)) pe_int) pa_nil))) (pa_cons (pe_callD (ok__law_draw T) hr (by decide) (by rfl) (pa_cons (pv 2) (pa_cons (pe_op op_addA (pe_callB call_len (by rfl) T.b_len (by decide +kernel) (pa_cons (pv 3) pa_nil)) pe_int) pa_nil))) pa_nil)))) (pg_name (i := 7) sc_law.nd rfl (by first | exact Or.inl rfl | exact Or.inr rfl)) (pss_cons (ps_set (i := 8) sc_law.nd rfl (by first | exact Or.inl rfl | exact Or.inr rfl) (pe_callD (ok_races_of T) hr (by decide) (by rfl) (pa_cons (pe_callD (ok_beginning T) hr (by decide) (by rfl) (pa_cons (pv 3) (pa_cons (pv 7) pa_nil))) pa_nil))) (pss_one (ps_if (pt_not (pt_val (pe_callD (ok__law_same T) hr (by decide) (by rfl) (pa_cons (pv 8) (pa_cons (pe_lc (own := [("pair", 11)]) rfl sc_law.nd (pi_seq (pv 5)) (blkOk_by (by kernel_rfl)) (fun _ _ _ _ _ => (pg_name (i := 11) sc_law.nd rfl (by first | exact Or.inl rfl | exact Or.inr rfl))) (fun _ _ _ _ _ => (pts_one (pt_cmpR op_lt (pe_ix ix_seq (pv 11) pe_int (fun _ _ => rfl)) (pv 7) (nomark _)))) (fun _ _ _ _ _ => (pv 11))) pa_nil))))) (pss_one (ps_ret pe_bl)) pss_nil)))) (pss_one (ps_if (pt_cmpR (op_neA (hu65 hr)) (pe_lc (own := [("pair", 11)]) rfl sc_law.nd (pi_seq (pv 5)) (blkOk_by (by kernel_rfl)) (fun _ _ _ _ _ => (pg_name (i := 11) sc_law.nd rfl (by first | exact Or.inl rfl | exact Or.inr rfl))) (fun _ _ _ _ _ => (pts_one (pt_not (pt_val (pe_callD (ok__law_conflict T) hr (by decide) (by rfl) (pa_cons (pv 3) (pa_cons (pe_ix ix_seq (pv 11) pe_int (fun _ _ => rfl)) (pa_cons (pe_ix ix_seq (pv 11) pe_int (fun _ _ => rfl)) pa_nil)))))))) (fun _ _ _ _ _ => (pv 11))) (pe_lst pa_nil) (nomark _)) (pss_one (ps_ret pe_bl)) pss_nil))))))))) (pss_one (ps_ret pe_bl)))) (by decide) (fun x hx => run_law x hx)
end DL
open PySem PySem.W PySem.Calls PyProof.Rows
theorem PySem.Challenge.cw_runforetold_k23_whole_first_unordered_pa_holds : PySem.Challenge.rw_runforetold_k23_whole_first_unordered_pa.Holds := by
  w_on; o_law
  refine HandSHeadRun.head_any (r := OpenLaw.row PySem.Challenge.rw_runforetold_k23_whole_first_unordered_pa) (q := view (OpenLaw.row PySem.Challenge.rw_runforetold_k23_whole_first_unordered_pa).prog [81]) (H := DL.hH) (ob := DL.hob) (M := 4000) (loose := DL.looseN) (d := HandSHeadRun.topDef (OpenLaw.row PySem.Challenge.rw_runforetold_k23_whole_first_unordered_pa).prog 81) (kwd := []) DL.hob_eq
    (by kernel_rfl) (fun s => by kernel_rfl) DL.hrun (by kernel_rfl) (by kernel_rfl) (by kernel_rfl) (by rfl) (by first | assumption | decide +kernel) (by decide +kernel) ⟨rfl, rfl, rfl, rfl, rfl, by decide +kernel⟩ ?hw ?hc
  case hw => w_witness2
  case hc =>
    refine L2.walk_ofE (l := PySem.Challenge.rw_runforetold_k23_whole_first_unordered_pa) (n := 63) (k := 27) (x := "script") (CX := L2.CX0) rfl (by decide) (by kernel_rfl) ⟨rfl, by decide, by decide⟩ ?F (fun _ _ _ _ z => z)
    intro w mg fa h Y G hmg0
    obtain ⟨K, KX, c⟩ := Y
    have hmg : mg ("law" : PySem.Str) = some (.ref fa) := by
      have e : (HandSHeadRun.topDef (OpenLaw.row PySem.Challenge.rw_runforetold_k23_whole_first_unordered_pa).prog 81).name = ("law" : PySem.Str) := by kernel_rfl
      rw [← e]
      exact hmg0
    obtain ⟨fd, hb, hF⟩ := DL.head_facts (P := (PySem.Challenge.rw_runforetold_k23_whole_first_unordered_pa).prog) (w := w) KX G hmg c
    exact ⟨K, fd, DL.spL K, KX, hb, fun H a ns hl _ hS => ⟨a, ns, rfl, hS, Nat.le_trans hl (by decide), fun _ => rfl⟩, hF⟩
