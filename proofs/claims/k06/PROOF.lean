import PyProof.Rows.All
import Wide.All
import OpenK.AllK
import Wide.FinOn
import KE.KStateDown
import Lean
import HandS.ForMost
import HandS.ForExc
import HandS.TryMany
import HandS.Wide
import HandS.Flow
import HandS.Style
import HandS.SortInts
import HandS.Conv
import HandS.ExcField
import KE.KExcSuper
import HandS.ExcInit
import KE.DataCmp
import HandS.Strs
import HandS.Star
import HandS.FltList
import HandS.Set
import HandS.Defaults
import HandS.HeadHook2
import HandS.Head0
import HandS.Head1
import HandS.Head2
import HandS.HeadEnd
import PySem.Challenge.RW_truebidsbest_k06_main_beliefs_smoothed_b
set_option Elab.async false
set_option linter.all false
set_option maxRecDepth 100000
set_option maxHeartbeats 0
set_option autoImplicit false
/-! Pf1: data in regions, slots, readings by plain functions. -/
namespace Pf
open PySem PySem.Spec PyProof.Rows L2

/-! ### answers -/
inductive Res (α : Type) where
  | ok (a : α)
  | exc (c : Str) (k : Int)
  | bad
def Res.bind {α β : Type} : Res α → (α → Res β) → Res β
  | .ok a, f => f a
  | .exc c k, _ => .exc c k
  | .bad, _ => .bad
def ofO {α : Type} : Option α → Res α
  | some a => .ok a
  | none => .bad
def Res.opt {α : Type} : Res α → Option α
  | .ok a => some a
  | _ => none
@[simp] theorem Res.bind_ok {α β : Type} (a : α) (f : α → Res β) : (Res.ok a).bind f = f a := rfl
@[simp] theorem Res.bind_exc {α β : Type} (c : Str) (k : Int) (f : α → Res β) : (Res.exc c k).bind f = .exc c k := rfl
@[simp] theorem Res.bind_bad {α β : Type} (f : α → Res β) : (Res.bad).bind f = .bad := rfl
@[simp] theorem ofO_some {α : Type} (a : α) : ofO (some a) = .ok a := rfl
@[simp] theorem ofO_none {α : Type} : ofO (none : Option α) = .bad := rfl
@[simp] theorem Res.opt_ok {α : Type} (a : α) : (Res.ok a).opt = some a := rfl

/-! ### data in a region -/
abbrev Rg := Addr → Prop
/-- a list, a tuple of the written part -/
def StL (K : PySem.W.Frag) (a : Addr) (xs : List V) : Prop :=
  ∃ (o : Obj) (its : Array Value) (n : Nat), K.lookup a = some o ∧ o.cls = .type "list" ∧ o.dict = none ∧ o.data = .seq its n ∧ its.size ≤ sizeLine ∧ Vals xs its.toList
def StT (K : PySem.W.Frag) (a : Addr) (xs : List V) : Prop :=
  ∃ (o : Obj) (its : Array Value) (n : Nat), K.lookup a = some o ∧ o.cls = .type "tuple" ∧ o.data = .seq its n ∧ its.size ≤ sizeLine ∧ Vals xs its.toList
theorem StL.sq {K : PySem.W.Frag} {a : Addr} {xs : List V} (h : StL K a xs) (H : Hp) : SqL K H a xs := .inr h
theorem StT.sq {K : PySem.W.Frag} {a : Addr} {xs : List V} (h : StT K a xs) (H : Hp) : SqT K H a xs := .inr h
/-- the law's script, as a datum of its own -/
abbrev scr (ns : List Int) : PyData := .dict (ns.map fun n => (PyData.none, PyData.int n))
mutual
inductive Rp (K : PySem.W.Frag) (F : Rg) (H : Hp) : V → PyData → Prop
  | non : Rp K F H .non .none
  | bl (b : Bool) : Rp K F H (.bl b) (.bool b)
  | int (i : Int) : Rp K F H (.int i) (.int i)
  | str (x : Str) : Rp K F H (.str x) (.str x)
  | lst {a : Addr} {xs : List V} {ds : List PyData} : F a → H a = some (.lst xs) → Rps K F H xs ds → Rp K F H (.ref a) (.list ds)
  | scr {a : Addr} {o : Obj} {ns : List Int} : F a → H a = some (.frz o (.lst (ns.map V.int))) → Rp K F H (.ref a) (.dict (ns.map fun n => (PyData.none, PyData.int n)))
  | scrK {a : Addr} {ns : List Int} : StL K a (ns.map V.int) → Rp K F H (.ref a) (.dict (ns.map fun n => (PyData.none, PyData.int n)))
  | tup {a : Addr} {xs : List V} {ds : List PyData} : F a → H a = some (.tup xs) → Rps K F H xs ds → Rp K F H (.ref a) (.tuple ds)
  | tupK {a : Addr} {xs : List V} {ds : List PyData} : StT K a xs → Rps K F H xs ds → Rp K F H (.ref a) (.tuple ds)
inductive Rps (K : PySem.W.Frag) (F : Rg) (H : Hp) : List V → List PyData → Prop
  | nil : Rps K F H [] []
  | cons {v : V} {vs : List V} {d : PyData} {ds : List PyData} : Rp K F H v d → Rps K F H vs ds → Rps K F H (v :: vs) (d :: ds)
end
section
variable {K : PySem.W.Frag} {F F' : Rg} {H H' : Hp}
theorem SqL.keepF {a : Addr} {xs : List V} (k : ∀ o, H a = some o → H' a = some o) (h : SqL K H a xs) : SqL K H' a xs := by
  rcases h with (h | ⟨o, h⟩) | h
  · exact .inl (.inl (k _ h))
  · exact .inl (.inr ⟨o, k _ h⟩)
  · exact .inr h
theorem SqT.keepF {a : Addr} {xs : List V} (k : ∀ o, H a = some o → H' a = some o) (h : SqT K H a xs) : SqT K H' a xs := by
  rcases h with (h | ⟨o, h⟩) | h
  · exact .inl (.inl (k _ h))
  · exact .inl (.inr ⟨o, k _ h⟩)
  · exact .inr h
mutual
theorem Rp.mono (s : ∀ a, F a → F' a) (k : ∀ a, F a → ∀ o, H a = some o → H' a = some o) : ∀ (d : PyData) (v : V), Rp K F H v d → Rp K F' H' v d
  | .none, _, h => by cases h; exact .non
  | .bool b, _, h => by cases h; exact .bl b
  | .int i, _, h => by cases h; exact .int i
  | .str x, _, h => by cases h; exact .str x
  | .list ds, _, h => by
    cases h with
    | lst f q r => exact .lst (s _ f) (k _ f _ q) (Rps.mono s k ds _ r)
  | .tuple ds, _, h => by
    cases h with
    | tup f q r => exact .tup (s _ f) (k _ f _ q) (Rps.mono s k ds _ r)
    | tupK q r => exact .tupK q (Rps.mono s k ds _ r)
  | .dict _, _, h => by
    cases h with
    | scr f q => exact .scr (s _ f) (k _ f _ q)
    | scrK q => exact .scrK q
theorem Rps.mono (s : ∀ a, F a → F' a) (k : ∀ a, F a → ∀ o, H a = some o → H' a = some o) : ∀ (ds : List PyData) (vs : List V), Rps K F H vs ds → Rps K F' H' vs ds
  | [], _, h => by cases h; exact .nil
  | d :: ds, _, h => by
    cases h with
    | cons a b => exact .cons (Rp.mono s k d _ a) (Rps.mono s k ds _ b)
end
mutual
theorem Rp.dp : ∀ (d : PyData) (v : V), d.canLay0 = true → Rp K F H v d → Dp K H v d
  | .none, _, _, h => by cases h; exact .non
  | .bool b, _, _, h => by cases h; exact .bl b
  | .int i, _, _, h => by cases h; exact .int i
  | .str x, _, _, h => by cases h; exact .str x
  | .list ds, _, c, h => by
    cases h with
    | lst f q r => exact .lst (SqL.of q) (Rps.dp ds _ (by simpa [PyData.canLay0] using c) r)
  | .tuple ds, _, c, h => by
    cases h with
    | tup f q r => exact .tup (SqT.of q) (Rps.dp ds _ (by simpa [PyData.canLay0] using c) r)
    | tupK q r => exact .tup (q.sq H) (Rps.dp ds _ (by simpa [PyData.canLay0] using c) r)
  | .dict _, _, c, h => by simp [PyData.canLay0] at c
theorem Rps.dp : ∀ (ds : List PyData) (vs : List V), PyData.canLayAll0 ds = true → Rps K F H vs ds → DpAll K H vs ds
  | [], _, _, h => by cases h; exact .nil
  | d :: ds, _, c, h => by
    have c' : d.canLay0 = true ∧ PyData.canLayAll0 ds = true := by simpa [PyData.canLayAll0] using c
    cases h with
    | cons a b => exact .cons (Rp.dp d _ c'.1 a) (Rps.dp ds _ c'.2 b)
end
theorem Rps.length : ∀ {ds : List PyData} {vs : List V}, Rps K F H vs ds → vs.length = ds.length
  | [], _, h => by cases h; rfl
  | d :: ds, _, h => by
    cases h with
    | cons a b => simp [Rps.length b]
theorem Rps.get : ∀ {ds : List PyData} {vs : List V} {i : Nat} {d : PyData}, Rps K F H vs ds → ds[i]? = some d → ∃ v, vs[i]? = some v ∧ Rp K F H v d
  | [], _, _, _, h, e => by simp at e
  | d :: ds, _, 0, _, h, e => by
    cases h with
    | cons a b => simp at e; subst e; exact ⟨_, rfl, a⟩
  | d :: ds, _, i + 1, _, h, e => by
    cases h with
    | cons a b => exact Rps.get (i := i) b (by simpa using e)
theorem Rps.append : ∀ {ds es : List PyData} {vs ws : List V}, Rps K F H vs ds → Rps K F H ws es → Rps K F H (vs ++ ws) (ds ++ es)
  | [], _, _, _, h, g => by cases h; exact g
  | d :: ds, _, _, _, h, g => by
    cases h with
    | cons a b => exact .cons a (Rps.append b g)
theorem Rps.take : ∀ {ds : List PyData} {vs : List V} (n : Nat), Rps K F H vs ds → Rps K F H (vs.take n) (ds.take n)
  | _, _, 0, _ => by simp; exact .nil
  | [], _, _ + 1, h => by cases h; exact .nil
  | d :: ds, _, n + 1, h => by
    cases h with
    | cons a b => exact .cons a (Rps.take n b)
theorem Rps.drop : ∀ {ds : List PyData} {vs : List V} (n : Nat), Rps K F H vs ds → Rps K F H (vs.drop n) (ds.drop n)
  | _, _, 0, h => by simpa using h
  | [], _, _ + 1, h => by cases h; exact .nil
  | d :: ds, _, n + 1, h => by
    cases h with
    | cons a b => exact Rps.drop n b
theorem Rps.reverse : ∀ {ds : List PyData} {vs : List V}, Rps K F H vs ds → Rps K F H vs.reverse ds.reverse
  | [], _, h => by cases h; exact .nil
  | d :: ds, _, h => by
    cases h with
    | cons a b => rw [List.reverse_cons, List.reverse_cons]; exact Rps.append (Rps.reverse b) (.cons a .nil)
theorem Rps.set : ∀ {ds : List PyData} {vs : List V} {v : V} {d : PyData} (i : Nat), Rp K F H v d → Rps K F H vs ds → Rps K F H (vs.set i v) (ds.set i d)
  | [], _, _, _, _, _, h => by cases h; exact .nil
  | _ :: ds, _, _, _, 0, r, h => by
    cases h with
    | cons a b => exact .cons r b
  | _ :: ds, _, _, _, i + 1, r, h => by
    cases h with
    | cons a b => exact .cons a (Rps.set i r b)
/-- all ints -/
theorem Rps.ints : ∀ {ns : List Int} {vs : List V}, Rps K F H vs (ns.map PyData.int) → vs = ns.map V.int
  | [], _, h => by cases h; rfl
  | n :: ns, _, h => by
    cases h with
    | cons a b => cases a; rw [Rps.ints b]; rfl
theorem Rps.bools : ∀ {ns : List Bool} {vs : List V}, Rps K F H vs (ns.map PyData.bool) → vs = ns.map V.bl
  | [], _, h => by cases h; rfl
  | n :: ns, _, h => by
    cases h with
    | cons a b => cases a; rw [Rps.bools b]; rfl
theorem Rps.of_ints : ∀ {ns : List Int}, Rps K F H (ns.map V.int) (ns.map PyData.int)
  | [] => .nil
  | n :: ns => .cons (.int n) Rps.of_ints

/-- what may be read: in the region, or a list that the frame alone holds -/
inductive RpB (K : PySem.W.Frag) (F : Rg) (H : Hp) : V → PyData → Prop
  | rp {v : V} {d : PyData} : Rp K F H v d → RpB K F H v d
  | own {a : Addr} {xs : List V} {ds : List PyData} : H a = some (.lst xs) → Rps K F H xs ds → RpB K F H (.ref a) (.list ds)
theorem RpB.dp {v : V} {d : PyData} (c : d.canLay0 = true) (h : RpB K F H v d) : Dp K H v d := by
  cases h with
  | rp h => exact Rp.dp _ _ c h
  | own a b => exact .lst (SqL.of a) (Rps.dp _ _ (by simpa [PyData.canLay0] using c) b)
theorem RpB.list {v : V} {ds : List PyData} (h : RpB K F H v (.list ds)) : ∃ a xs, v = .ref a ∧ H a = some (.lst xs) ∧ Rps K F H xs ds := by
  cases h with
  | rp h => cases h with
    | lst f q r => exact ⟨_, _, rfl, q, r⟩
  | own a b => exact ⟨_, _, rfl, a, b⟩
theorem map_scr_inj {ns ms : List Int} (h : ns.map (fun n => (PyData.none, PyData.int n)) = ms.map (fun n => (PyData.none, PyData.int n))) : ns = ms := by
  have := congrArg (List.map fun p : PyData × PyData => match p.2 with | .int i => i | _ => 0) h
  simpa [List.map_map, Function.comp_def] using this
theorem RpB.script {v : V} {ns : List Int} (h : RpB K F H v (scr ns)) : ∃ a, v = .ref a ∧ SqL K H a (ns.map V.int) := by
  cases h with
  | rp h =>
    generalize e : scr ns = d at h
    cases h with
    | scr f q =>
      have e2 := map_scr_inj (PyData.dict.inj e)
      subst e2
      exact ⟨_, rfl, .inl (.inr ⟨_, q⟩)⟩
    | scrK q =>
      have e2 := map_scr_inj (PyData.dict.inj e)
      subst e2
      exact ⟨_, rfl, q.sq H⟩
    | _ => cases e
theorem RpB.tuple {v : V} {ds : List PyData} (h : RpB K F H v (.tuple ds)) : ∃ a xs, v = .ref a ∧ SqT K H a xs ∧ Rps K F H xs ds := by
  cases h with
  | rp h => cases h with
    | tup f q r => exact ⟨_, _, rfl, SqT.of q, r⟩
    | tupK q r => exact ⟨_, _, rfl, q.sq H, r⟩
theorem RpB.int' {v : V} {i : Int} (h : RpB K F H v (.int i)) : v = .int i := by
  cases h with
  | rp h => cases h; rfl
theorem RpB.bool' {v : V} {i : Bool} (h : RpB K F H v (.bool i)) : v = .bl i := by
  cases h with
  | rp h => cases h; rfl
theorem RpB.str' {v : V} {i : Str} (h : RpB K F H v (.str i)) : v = .str i := by
  cases h with
  | rp h => cases h; rfl
theorem RpB.none' {v : V} (h : RpB K F H v .none) : v = .non := by
  cases h with
  | rp h => cases h; rfl

/-! ### steps -/
structure Stp (F : Rg) (H : Hp) (F' : Rg) (H' : Hp) : Prop where
  sub : ∀ a, F a → F' a
  keep : Same H H'
  new : ∀ a, F' a → F a ∨ (H a = none ∧ H' a ≠ none)
theorem Same.some {H1 H2 : Hp} (s : Same H1 H2) {a : Addr} (h : H1 a ≠ none) : H2 a ≠ none := by
  cases e : H1 a with
  | none => exact absurd e h
  | some o => rw [s a o e]; simp
theorem Stp.refl : Stp F H F H := ⟨fun _ h => h, Same.refl _, fun _ h => .inl h⟩
theorem Stp.trans {F1 F2 F3 : Rg} {H1 H2 H3 : Hp} (a : Stp F1 H1 F2 H2) (b : Stp F2 H2 F3 H3) : Stp F1 H1 F3 H3 :=
  ⟨fun x h => b.sub x (a.sub x h), a.keep.trans b.keep, fun x h => (b.new x h).elim (fun q => (a.new x q).imp id fun z => ⟨z.1, Same.some b.keep z.2⟩) fun q => .inr ⟨a.keep.free q.1, q.2⟩⟩
theorem Rp.stp {v : V} {d : PyData} (s : Stp F H F' H') (h : Rp K F H v d) : Rp K F' H' v d := Rp.mono s.sub (fun a _ o => s.keep a o) _ _ h
theorem Rps.stp {v : List V} {d : List PyData} (s : Stp F H F' H') (h : Rps K F H v d) : Rps K F' H' v d := Rps.mono s.sub (fun a _ o => s.keep a o) _ _ h
theorem RpB.stp {v : V} {d : PyData} (s : Stp F H F' H') (h : RpB K F H v d) : RpB K F' H' v d := by
  cases h with
  | rp h => exact .rp (h.stp s)
  | own a b => exact .own (s.keep _ _ a) (b.stp s)
/-- what is kept of the region -/
structure FK (F : Rg) (H : Hp) (F' : Rg) (H' : Hp) : Prop where
  sub : ∀ a, F a → F' a
  keep : ∀ a, F a → ∀ o, H a = some o → H' a = some o
theorem FK.refl : FK F H F H := ⟨fun _ h => h, fun _ _ _ h => h⟩
theorem FK.trans {F1 F2 F3 : Rg} {H1 H2 H3 : Hp} (a : FK F1 H1 F2 H2) (b : FK F2 H2 F3 H3) : FK F1 H1 F3 H3 :=
  ⟨fun x h => b.sub x (a.sub x h), fun x h o e => b.keep x (a.sub x h) o (a.keep x h o e)⟩
theorem Stp.fk (s : Stp F H F' H') : FK F H F' H' := ⟨s.sub, fun a _ o => s.keep a o⟩
theorem Rp.fk {v : V} {d : PyData} (s : FK F H F' H') (h : Rp K F H v d) : Rp K F' H' v d := Rp.mono s.sub s.keep _ _ h
theorem Rps.fk {v : List V} {d : List PyData} (s : FK F H F' H') (h : Rps K F H v d) : Rps K F' H' v d := Rps.mono s.sub s.keep _ _ h
end

/-! ### slots -/
inductive Sl where
  | un
  | val (d : PyData)
  | own (ds : List PyData)
abbrev Ro := List Sl
structure Ste (K : PySem.W.Frag) (B : Hp) (F0 F : Rg) (H : Hp) (σ : L2.St) (ρ : Ro) : Prop where
  same : Same B H
  reg : ∀ a, F a → F0 a ∨ B a = none
  sub : ∀ a, F0 a → F a
  trk : ∀ a, F a → H a ≠ none
  len : σ.length = ρ.length
  val : ∀ (i : Nat) (d : PyData), ρ[i]? = some (.val d) → ∃ v, σ[i]? = some (some v) ∧ Rp K F H v d
  own : ∀ (i : Nat) (ds : List PyData), ρ[i]? = some (.own ds) → ∃ a xs, σ[i]? = some (some (.ref a)) ∧ ¬ F a ∧ B a = none ∧ H a = some (.lst xs) ∧ Rps K F H xs ds
  sep : ∀ (i j : Nat) (ds es : List PyData) (a : Addr), i ≠ j → ρ[i]? = some (.own ds) → ρ[j]? = some (.own es) → σ[i]? = some (some (.ref a)) → σ[j]? ≠ some (some (.ref a))
section
variable {K : PySem.W.Frag} {B : Hp} {F0 F F' : Rg} {H H' : Hp} {σ : L2.St} {ρ : Ro}
theorem Ste.stp (S : Ste K B F0 F H σ ρ) (s : Stp F H F' H') : Ste K B F0 F' H' σ ρ where
  same := S.same.trans s.keep
  reg := fun a h => (s.new a h).elim (fun q => S.reg a q) fun q => .inr (S.same.free q.1)
  sub := fun a h => s.sub a (S.sub a h)
  trk := fun a h => (s.new a h).elim (fun q => Same.some s.keep (S.trk a q)) fun q => q.2
  len := S.len
  val := fun i d e => let ⟨v, h1, h2⟩ := S.val i d e; ⟨v, h1, h2.stp s⟩
  own := fun i ds e => by
    obtain ⟨a, xs, h1, h2, h3, h4, h5⟩ := S.own i ds e
    exact ⟨a, xs, h1, (fun q => (s.new a q).elim h2 fun z => by have z := z.1; rw [h4] at z; cases z), h3, s.keep _ _ h4, h5.stp s⟩
  sep := S.sep
theorem getset_ne {α : Type} {l : List α} {i j : Nat} {x : α} (h : i ≠ j) : (l.set i x)[j]? = l[j]? := List.getElem?_set_ne h
theorem getset_some {α : Type} {l : List α} {i j : Nat} {x y : α} (e : (l.set i x)[j]? = some y) : (i = j ∧ x = y ∧ i < l.length) ∨ (i ≠ j ∧ l[j]? = some y) := by
  by_cases h : i = j
  · subst h
    by_cases hl : i < l.length
    · rw [List.getElem?_set_self hl] at e; cases e; exact .inl ⟨rfl, rfl, hl⟩
    · rw [List.getElem?_eq_none (by simpa using hl)] at e; cases e
  · rw [getset_ne h] at e; exact .inr ⟨h, e⟩
/-- a slot is stored -/
theorem Ste.set_val {i : Nat} {v : V} {d : PyData} (S : Ste K B F0 F H σ ρ) (r : Rp K F H v d) : Ste K B F0 F H (σ.set i (some v)) (ρ.set i (.val d)) where
  same := S.same
  reg := S.reg
  sub := S.sub
  trk := S.trk
  len := by rw [List.length_set, List.length_set]; exact S.len
  val := fun j e h => by
    rcases getset_some h with ⟨rfl, q, hl⟩ | ⟨hn, h⟩
    · cases q; exact ⟨v, List.getElem?_set_self (by rw [S.len]; exact hl), r⟩
    · obtain ⟨w, h1, h2⟩ := S.val j e h
      exact ⟨w, by rw [getset_ne hn]; exact h1, h2⟩
  own := fun j e h => by
    rcases getset_some h with ⟨rfl, q, hl⟩ | ⟨hn, h⟩
    · cases q
    · obtain ⟨a, xs, h1, h2⟩ := S.own j e h
      exact ⟨a, xs, by rw [getset_ne hn]; exact h1, h2⟩
  sep := fun j k ds es a hjk h1 h2 h3 => by
    rcases getset_some h1 with ⟨rfl, q, hl⟩ | ⟨hn, h1⟩
    · cases q
    · rcases getset_some h2 with ⟨rfl, q, hl⟩ | ⟨hn2, h2⟩
      · cases q
      · rw [getset_ne hn] at h3; rw [getset_ne hn2]; exact S.sep j k ds es a hjk h1 h2 h3
/-- a slot is forgotten -/
theorem Ste.set_un {i : Nat} {o : Option V} (S : Ste K B F0 F H σ ρ) : Ste K B F0 F H (σ.set i o) (ρ.set i .un) where
  same := S.same
  reg := S.reg
  sub := S.sub
  trk := S.trk
  len := by rw [List.length_set, List.length_set]; exact S.len
  val := fun j e h => by
    rcases getset_some h with ⟨rfl, q, hl⟩ | ⟨hn, h⟩
    · cases q
    · obtain ⟨w, h1, h2⟩ := S.val j e h
      exact ⟨w, by rw [getset_ne hn]; exact h1, h2⟩
  own := fun j e h => by
    rcases getset_some h with ⟨rfl, q, hl⟩ | ⟨hn, h⟩
    · cases q
    · obtain ⟨a, xs, h1, h2⟩ := S.own j e h
      exact ⟨a, xs, by rw [getset_ne hn]; exact h1, h2⟩
  sep := fun j k ds es a hjk h1 h2 h3 => by
    rcases getset_some h1 with ⟨rfl, q, hl⟩ | ⟨hn, h1⟩
    · cases q
    · rcases getset_some h2 with ⟨rfl, q, hl⟩ | ⟨hn2, h2⟩
      · cases q
      · rw [getset_ne hn] at h3; rw [getset_ne hn2]; exact S.sep j k ds es a hjk h1 h2 h3
/-- a new list of one's own: at a, that no slot has -/
theorem Ste.set_own {i : Nat} {a : Addr} {xs : List V} {ds : List PyData} (S : Ste K B F0 F H σ ρ) (hF : ¬ F a) (hB : B a = none) (hH : H a = some (.lst xs)) (r : Rps K F H xs ds)
    (hn : ∀ (j : Nat) (es : List PyData), j ≠ i → ρ[j]? = some (.own es) → σ[j]? ≠ some (some (.ref a))) : Ste K B F0 F H (σ.set i (some (.ref a))) (ρ.set i (.own ds)) where
  same := S.same
  reg := S.reg
  sub := S.sub
  trk := S.trk
  len := by rw [List.length_set, List.length_set]; exact S.len
  val := fun j e h => by
    rcases getset_some h with ⟨rfl, q, hl⟩ | ⟨hn, h⟩
    · cases q
    · obtain ⟨w, h1, h2⟩ := S.val j e h
      exact ⟨w, by rw [getset_ne hn]; exact h1, h2⟩
  own := fun j e h => by
    rcases getset_some h with ⟨rfl, q, hl⟩ | ⟨hn, h⟩
    · cases q; exact ⟨a, xs, List.getElem?_set_self (by rw [S.len]; exact hl), hF, hB, hH, r⟩
    · obtain ⟨b, xs, h1, h2⟩ := S.own j e h
      exact ⟨b, xs, by rw [getset_ne hn]; exact h1, h2⟩
  sep := fun j k ds es b hjk h1 h2 h3 => by
    rcases getset_some h1 with ⟨rfl, q, hl⟩ | ⟨hn1, h1⟩
    · rcases getset_some h2 with ⟨rfl, q2, hl2⟩ | ⟨hn2, h2⟩
      · exact absurd rfl hjk
      · rw [List.getElem?_set_self (by rw [S.len]; exact hl)] at h3
        cases h3
        rw [getset_ne hn2]
        exact hn k es (Ne.symm hjk) h2
    · rcases getset_some h2 with ⟨rfl, q2, hl2⟩ | ⟨hn2, h2⟩
      · rw [getset_ne hn1] at h3
        rw [List.getElem?_set_self (by rw [S.len]; exact hl2)]
        intro z
        cases z
        exact hn j ds hjk h1 h3
      · rw [getset_ne hn1] at h3; rw [getset_ne hn2]; exact S.sep j k ds es b hjk h1 h2 h3
/-- a list of one's own is written -/
theorem Ste.write {i : Nat} {a : Addr} {ys : List V} {ds es : List PyData} (S : Ste K B F0 F H σ ρ) (e : ρ[i]? = some (.own ds)) (hs : σ[i]? = some (some (.ref a))) (r : Rps K F H ys es) :
    Ste K B F0 F (upd H a (.lst ys)) σ (ρ.set i (.own es)) ∧ FK F H F (upd H a (.lst ys)) := by
  obtain ⟨a', xs, h1, h2, h3, h4, h5⟩ := S.own i ds e
  rw [hs] at h1
  have ea : a = a' := by injection h1 with h1; injection h1 with h1; injection h1
  subst ea
  have fk : FK F H F (upd H a (.lst ys)) := ⟨fun _ h => h, fun b hb o q => by rw [upd_ne (show b ≠ a from fun z => by rw [z] at hb; exact h2 hb)]; exact q⟩
  refine ⟨⟨fun b o q => ?_, S.reg, S.sub, fun b hb => by rw [upd_ne (show b ≠ a from fun z => by rw [z] at hb; exact h2 hb)]; exact S.trk b hb, by rw [List.length_set]; exact S.len, fun j d h => ?_, fun j es' h => ?_, fun j k ds' es' b hjk q1 q2 q3 => ?_⟩, fk⟩
  · have : b ≠ a := fun z => by rw [z, h3] at q; cases q
    rw [upd_ne this]; exact S.same b o q
  · rcases getset_some h with ⟨rfl, q, hl⟩ | ⟨hn, h⟩
    · cases q
    · obtain ⟨w, g1, g2⟩ := S.val j d h
      exact ⟨w, g1, g2.fk fk⟩
  · rcases getset_some h with ⟨rfl, q, hl⟩ | ⟨hn, h⟩
    · cases q; exact ⟨a, ys, hs, h2, h3, upd_same, r.fk fk⟩
    · obtain ⟨b, zs, g1, g2, g3, g4, g5⟩ := S.own j es' h
      have hb : b ≠ a := fun z => by
        rw [z] at g1
        exact S.sep i j ds es' a hn e h hs g1
      exact ⟨b, zs, g1, g2, g3, by rw [upd_ne hb]; exact g4, g5.fk fk⟩
  · have old : ∀ {m : Nat} {zs : List PyData}, (ρ.set i (.own es))[m]? = some (.own zs) → ∃ zs', ρ[m]? = some (.own zs') := fun {m zs} h => by
      rcases getset_some h with ⟨rfl, q, hl⟩ | ⟨hn, h⟩
      · exact ⟨ds, e⟩
      · exact ⟨zs, h⟩
    obtain ⟨z1, q1⟩ := old q1
    obtain ⟨z2, q2⟩ := old q2
    exact S.sep j k z1 z2 b hjk q1 q2 q3
/-- an own list is let go into the region -/
def frz1 (i : Nat) (ρ : Ro) : Ro := match ρ[i]? with
  | some (.own ds) => ρ.set i (.val (.list ds))
  | _ => ρ
def frz : List Nat → Ro → Ro
  | [], ρ => ρ
  | i :: is, ρ => frz is (frz1 i ρ)
theorem Ste.frz1 (S : Ste K B F0 F H σ ρ) (i : Nat) : ∃ F', Ste K B F0 F' H σ (frz1 i ρ) ∧ FK F H F' H := by
  unfold Pf.frz1
  split
  · rename_i ds e
    obtain ⟨a, xs, h1, h2, h3, h4, h5⟩ := S.own i ds e
    have fk : FK F H (fun b => F b ∨ b = a) H := ⟨fun _ h => .inl h, fun _ _ _ q => q⟩
    refine ⟨fun b => F b ∨ b = a, ⟨S.same, fun b hb => ?_, fun b hb => .inl (S.sub b hb), (fun b hb => hb.elim (S.trk b) fun z => by rw [z, h4]; simp), by rw [List.length_set]; exact S.len, fun j d h => ?_, fun j es h => ?_, fun j k ds' es' b hjk q1 q2 q3 => ?_⟩, fk⟩
    · rcases hb with hb | rfl
      · exact S.reg b hb
      · exact .inr h3
    · rcases getset_some h with ⟨rfl, q, hl⟩ | ⟨hn, h⟩
      · cases q; exact ⟨_, h1, .lst (.inr rfl) h4 (h5.fk fk)⟩
      · obtain ⟨w, g1, g2⟩ := S.val j d h
        exact ⟨w, g1, g2.fk fk⟩
    · rcases getset_some h with ⟨rfl, q, hl⟩ | ⟨hn, h⟩
      · cases q
      · obtain ⟨b, zs, g1, g2, g3, g4, g5⟩ := S.own j es h
        refine ⟨b, zs, g1, fun z => ?_, g3, g4, g5.fk fk⟩
        rcases z with z | z
        · exact g2 z
        · rw [z] at g1; exact S.sep i j ds es a hn e h h1 g1
    · rcases getset_some q1 with ⟨rfl, q, hl⟩ | ⟨hn, q1⟩
      · cases q
      · rcases getset_some q2 with ⟨rfl, q, hl⟩ | ⟨hn2, q2⟩
        · cases q
        · exact S.sep j k ds' es' b hjk q1 q2 q3
  · exact ⟨F, S, FK.refl⟩
theorem Ste.frz : ∀ (is : List Nat) {F : Rg} {ρ : Ro}, Ste K B F0 F H σ ρ → ∃ F', Ste K B F0 F' H σ (frz is ρ) ∧ FK F H F' H
  | [], F, ρ, S => ⟨F, S, FK.refl⟩
  | i :: is, F, ρ, S => by
    obtain ⟨F1, S1, k1⟩ := S.frz1 i
    obtain ⟨F2, S2, k2⟩ := Ste.frz is S1
    exact ⟨F2, S2, k1.trans k2⟩
def wipeR (ρ : Ro) : List Nat → Ro
  | [] => ρ
  | i :: is => (wipeR ρ is).set i .un
theorem Ste.wipe (S : Ste K B F0 F H σ ρ) : ∀ is : List Nat, Ste K B F0 F H (wipe σ is) (wipeR ρ is)
  | [] => S
  | i :: is => by unfold L2.wipe wipeR; exact (S.wipe is).set_un
theorem Ste.weak {σ' : L2.St} (S : Ste K B F0 F H σ ρ) (hl : σ'.length = σ.length) (h : ∀ (i : Nat) (x : V), σ[i]? = some (some x) → σ'[i]? = some (some x)) (h2 : ∀ (i : Nat) (x : V), σ'[i]? = some (some x) → σ[i]? = some (some x)) : Ste K B F0 F H σ' ρ where
  same := S.same
  reg := S.reg
  sub := S.sub
  trk := S.trk
  len := hl.trans S.len
  val := fun i d e => let ⟨v, a, b⟩ := S.val i d e; ⟨v, h i v a, b⟩
  own := fun i ds e => let ⟨a, xs, g, r⟩ := S.own i ds e; ⟨a, xs, h i _ g, r⟩
  sep := fun i j ds es a hij e1 e2 e3 e4 => S.sep i j ds es a hij e1 e2 (h2 i _ e3) (h2 j _ e4)
end
end Pf
/-! Pf2: readings by plain functions; expressions. -/
namespace Pf
open PySem PySem.Spec PyProof.Rows L2

/-! ### readings -/
def PostE (mg : Str → Option Value) (W : WX) (σ : L2.St) (H : Hp) {α : Type} (P : α → Prop) : Res α → Prop
  | .ok a => P a
  | .exc c k => ∀ (H' : Hp) (dx C : Addr), Same H H' → H' dx = some (.xd [("at", .int k)]) → mg c = some (.ref C) → W (.ref C) (some dx) σ H'
  | .bad => False
section
variable (K : PySem.W.Frag) (mg : Str → Option Value) (W : WX)
def tE {α : Type} (Rel : Rg → Hp → Rg → Hp → V → α → Prop) (f : Ro → Res α) : TE := fun σ H Q =>
  ∃ (B : Hp) (F0 F : Rg) (ρ : Ro), Ste K B F0 F H σ ρ ∧ PostE mg W σ H (fun a => ∀ F' H' v, Stp F H F' H' → Rel F H F' H' v a → Q v H') (f ρ)
/-- in the region | to be read | a new list | a bool -/
abbrev RF : Rg → Hp → Rg → Hp → V → PyData → Prop := fun _ _ F' H' v d => Rp K F' H' v d
abbrev RB : Rg → Hp → Rg → Hp → V → PyData → Prop := fun _ _ F' H' v d => RpB K F' H' v d
abbrev RN : Rg → Hp → Rg → Hp → V → List PyData → Prop := fun _ H F' H' v ds => ∃ a xs, v = .ref a ∧ H a = none ∧ ¬ F' a ∧ H' a = some (.lst xs) ∧ Rps K F' H' xs ds
abbrev tF (f : Ro → Res PyData) : TE := tE K mg W (RF K) f
abbrev tB (f : Ro → Res PyData) : TE := tE K mg W (RB K) f
abbrev tN (f : Ro → Res (List PyData)) : TE := tE K mg W (RN K) f
def tTs (f : Ro → Res Bool) : TT := fun σ H Q =>
  ∃ (B : Hp) (F0 F : Rg) (ρ : Ro), Ste K B F0 F H σ ρ ∧ PostE mg W σ H (fun b => ∀ F' H', Stp F H F' H' → Q b H') (f ρ)
def tAs (f : Ro → Res (List PyData)) : TA := fun σ H Q =>
  ∃ (B : Hp) (F0 F : Rg) (ρ : Ro), Ste K B F0 F H σ ρ ∧ PostE mg W σ H (fun ds => ∀ F' H' vs, Stp F H F' H' → Rps K F' H' vs ds → Q vs H') (f ρ)
/-- arguments that are only read -/
inductive RpBs (F : Rg) (H : Hp) : List V → List PyData → Prop
  | nil : RpBs F H [] []
  | cons {v : V} {vs : List V} {d : PyData} {ds : List PyData} : RpB K F H v d → RpBs F H vs ds → RpBs F H (v :: vs) (d :: ds)
def tABs (f : Ro → Res (List PyData)) : TA := fun σ H Q =>
  ∃ (B : Hp) (F0 F : Rg) (ρ : Ro), Ste K B F0 F H σ ρ ∧ PostE mg W σ H (fun ds => ∀ F' H' vs, Stp F H F' H' → RpBs K F' H' vs ds → Q vs H') (f ρ)
end
section
variable {K : PySem.W.Frag} {mg : Str → Option Value} {W : WX} {σ : L2.St} {H : Hp} {B : Hp} {F0 F : Rg} {ρ : Ro}
theorem PostE.mono {H1 : Hp} {α : Type} {P : α → Prop} {r : Res α} (s : Same H H1) (h : PostE mg W σ H P r) : PostE mg W σ H1 P r := by
  cases r with
  | ok a => exact h
  | exc c k => exact fun H' dx C q => h H' dx C (s.trans q)
  | bad => exact h
theorem PostE.imp {α : Type} {P P' : α → Prop} {r : Res α} (h : PostE mg W σ H P r) (f : ∀ a, P a → P' a) : PostE mg W σ H P' r := by
  cases r with
  | ok a => exact f a h
  | exc c k => exact h
  | bad => exact h
theorem PostE.ofO {α : Type} {P : α → Prop} {r : Option α} (h : PostE mg W σ H P (ofO r)) : ∃ a, r = some a ∧ P a := by
  cases r with
  | none => exact h.elim
  | some a => exact ⟨a, rfl, h⟩
theorem tE.mk {α β : Type} {Rel : Rg → Hp → Rg → Hp → V → α → Prop} {f : Ro → Res α} {r : α → Res β} {P : β → Prop} {Q : VK} (S : Ste K B F0 F H σ ρ) (p : PostE mg W σ H P ((f ρ).bind r))
    (h : ∀ a F' H' v, f ρ = .ok a → Stp F H F' H' → Rel F H F' H' v a → PostE mg W σ H P (r a) → Q v H') : tE K mg W Rel f σ H Q := by
  refine ⟨B, F0, F, ρ, S, ?_⟩
  cases e : f ρ with
  | ok a => rw [e] at p; exact fun F' H' v s r => h a F' H' v e s r p
  | exc c k => rw [e] at p; exact p
  | bad => rw [e] at p; exact p
theorem tTs.mk {β : Type} {f : Ro → Res Bool} {r : Bool → Res β} {P : β → Prop} {Q : Bool → Hp → Prop} (S : Ste K B F0 F H σ ρ) (p : PostE mg W σ H P ((f ρ).bind r))
    (h : ∀ a F' H', f ρ = .ok a → Stp F H F' H' → PostE mg W σ H P (r a) → Q a H') : tTs K mg W f σ H Q := by
  refine ⟨B, F0, F, ρ, S, ?_⟩
  cases e : f ρ with
  | ok a => rw [e] at p; exact fun F' H' s => h a F' H' e s p
  | exc c k => rw [e] at p; exact p
  | bad => rw [e] at p; exact p
theorem tAs.mk {β : Type} {f : Ro → Res (List PyData)} {r : List PyData → Res β} {P : β → Prop} {Q : List V → Hp → Prop} (S : Ste K B F0 F H σ ρ) (p : PostE mg W σ H P ((f ρ).bind r))
    (h : ∀ a F' H' vs, f ρ = .ok a → Stp F H F' H' → Rps K F' H' vs a → PostE mg W σ H P (r a) → Q vs H') : tAs K mg W f σ H Q := by
  refine ⟨B, F0, F, ρ, S, ?_⟩
  cases e : f ρ with
  | ok a => rw [e] at p; exact fun F' H' v s r => h a F' H' v e s r p
  | exc c k => rw [e] at p; exact p
  | bad => rw [e] at p; exact p
theorem tABs.mk {β : Type} {f : Ro → Res (List PyData)} {r : List PyData → Res β} {P : β → Prop} {Q : List V → Hp → Prop} (S : Ste K B F0 F H σ ρ) (p : PostE mg W σ H P ((f ρ).bind r))
    (h : ∀ a F' H' vs, f ρ = .ok a → Stp F H F' H' → RpBs K F' H' vs a → PostE mg W σ H P (r a) → Q vs H') : tABs K mg W f σ H Q := by
  refine ⟨B, F0, F, ρ, S, ?_⟩
  cases e : f ρ with
  | ok a => rw [e] at p; exact fun F' H' v s r => h a F' H' v e s r p
  | exc c k => rw [e] at p; exact p
  | bad => rw [e] at p; exact p
theorem RpBs.one {vs : List V} {d : PyData} (h : RpBs K F H vs [d]) : ∃ v, vs = [v] ∧ RpB K F H v d := by
  cases h with
  | cons a b => cases b; exact ⟨_, rfl, a⟩
theorem RpBs.two {vs : List V} {d e : PyData} (h : RpBs K F H vs [d, e]) : ∃ v w, vs = [v, w] ∧ RpB K F H v d ∧ RpB K F H w e := by
  cases h with
  | cons a b =>
    cases b with
    | cons a' b => cases b; exact ⟨_, _, rfl, a, a'⟩
/-- a new object in the region -/
theorem Stp.add {a : Addr} {o : HO} (h : H a = none) : Stp F H (fun b => F b ∨ b = a) (upd H a o) :=
  ⟨fun _ q => .inl q, fun b o' q => by rw [upd_ne (ne_of_none q h)]; exact q, fun b q => q.elim .inl fun z => .inr (by rw [z]; exact ⟨h, by rw [upd_same]; simp⟩)⟩
theorem Stp.lay {a : Addr} {o : HO} (h : H a = none) : Stp F H F (upd H a o) :=
  ⟨fun _ q => q, fun b o' q => by rw [upd_ne (ne_of_none q h)]; exact q, fun b q => .inl q⟩
theorem Stp.lay0 : Stp F H F H := Stp.refl
end

section
variable {X : Cx}
theorem _root_.L2.PE.imp {e : Expr} {t t' : TE} (h : PE X e t) (i : ∀ σ H Q, t' σ H Q → t σ H Q) : PE X e t' := ⟨fun pins s σ H Q I q => h.run pins s σ H Q I (i σ H Q q)⟩
theorem _root_.L2.PT.imp {e : Expr} {t t' : TT} (h : PT X e t) (i : ∀ σ H Q, t' σ H Q → t σ H Q) : PT X e t' := ⟨fun pins s σ H Q I q => h.run pins s σ H Q I (i σ H Q q)⟩
theorem _root_.L2.PW.imp {e : Expr} {t t' : TT} (h : PW X e t) (i : ∀ σ H Q, t' σ H Q → t σ H Q) : PW X e t' := ⟨fun w pins s σ H Q I q => h.run w pins s σ H Q I (i σ H Q q)⟩
theorem _root_.L2.PA.imp {e : List Expr} {t t' : TA} (h : PA X e t) (i : ∀ σ H Q, t' σ H Q → t σ H Q) : PA X e t' := ⟨fun pos pins s σ H Q I q => h.run pos pins s σ H Q I (i σ H Q q)⟩
/-- the lengths of lists and tuples have a bound -/
def LenOk (K : PySem.W.Frag) (v : V) (H : Hp) : Prop := ∀ a, v = .ref a → (∀ xs, SqL K H a xs → xs.length ≤ sizeLine) ∧ ∀ xs, SqT K H a xs → xs.length ≤ sizeLine
theorem _root_.L2.PE.len {e : Expr} {t : TE} (h : PE X e t) : PE X e (fun σ H Q => t σ H fun v H' => LenOk X.K v H' → Q v H') := ⟨fun pins s σ H Q I q =>
  thn (h.run pins s σ H _ I q) fun u s' ⟨v, H', I', r, q'⟩ => ⟨v, H', I', r, q' fun a _ => ⟨fun xs hx => (let ⟨_, _, _, z⟩ := I'.list hx; z), fun xs hx => (let ⟨_, _, _, z⟩ := I'.tuple hx; z)⟩⟩⟩
end

/-! ### plain functions of the slots -/
def eVar (i : Nat) : Ro → Res PyData := fun ρ => match ρ[i]? with
  | some (.val d) => .ok d
  | _ => .bad
def eVarB (i : Nat) : Ro → Res PyData := fun ρ => match ρ[i]? with
  | some (.val d) => .ok d
  | some (.own ds) => .ok (.list ds)
  | _ => .bad
def eC (d : PyData) : Ro → Res PyData := fun _ => .ok d
def e1 {α β : Type} (s : α → Option β) (f : Ro → Res α) : Ro → Res β := fun ρ => (f ρ).bind fun d => ofO (s d)
def e2 {α β γ : Type} (s : α → β → Option γ) (f : Ro → Res α) (g : Ro → Res β) : Ro → Res γ := fun ρ => (f ρ).bind fun d => (g ρ).bind fun e => ofO (s d e)
def eB {α β : Type} (f : Ro → Res α) (g : α → Ro → Res β) : Ro → Res β := fun ρ => (f ρ).bind fun d => g d ρ
def eNil : Ro → Res (List PyData) := fun _ => .ok []
def eCons (f : Ro → Res PyData) (g : Ro → Res (List PyData)) : Ro → Res (List PyData) := fun ρ => (f ρ).bind fun d => (g ρ).bind fun ds => .ok (d :: ds)
def eIf {α : Type} (c : Ro → Res Bool) (f g : Ro → Res α) : Ro → Res α := fun ρ => (c ρ).bind fun b => if b = true then f ρ else g ρ
def eAnd (c d : Ro → Res Bool) : Ro → Res Bool := fun ρ => (c ρ).bind fun b => if b = true then d ρ else .ok false
def eOr (c d : Ro → Res Bool) : Ro → Res Bool := fun ρ => (c ρ).bind fun b => if b = true then .ok true else d ρ
def eNot (c : Ro → Res Bool) : Ro → Res Bool := fun ρ => (c ρ).bind fun b => .ok (!b)
def eCall (m : List PyData → Res PyData) (fs : Ro → Res (List PyData)) : Ro → Res PyData := fun ρ => (fs ρ).bind m
def asB : PyData → Option Bool
  | .bool b => some b
  | _ => none
def bD (b : Bool) : Option PyData := some (.bool b)
def listD (ds : List PyData) : Option PyData := some (.list ds)

section
variable {X : Cx} {K : PySem.W.Frag} {mg : Str → Option Value} {W : WX}
variable {pos : Pos}
/-! ### names, constants -/
theorem pf_var (i : Nat) {x : Str} (hN : X.N[i]? = some x := by rfl) (hv : Vis X.env.scope x := by first | exact Or.inl rfl | exact Or.inr (Or.inl rfl) | exact Or.inr (Or.inr rfl)) (hd : (x == ("__debug__" : Str)) = false := by decide) (hcd : (x == ("__classdict__" : Str)) = false := by decide) : PE X (.Name x pos) (tF K mg W (eVar i)) :=
  (pe_var hN hv hd hcd).imp fun σ H Q ⟨B, F0, F, ρ, S, p⟩ => by
    unfold eVar at p
    cases e : ρ[i]? with
    | none => rw [e] at p; exact p.elim
    | some sl =>
      rw [e] at p
      cases sl with
      | un => exact p.elim
      | own ds => exact p.elim
      | val d =>
        obtain ⟨v, h1, h2⟩ := S.val i d e
        exact ⟨v, h1, p F H v Stp.refl h2⟩
theorem pf_varB (i : Nat) {x : Str} (hN : X.N[i]? = some x := by rfl) (hv : Vis X.env.scope x := by first | exact Or.inl rfl | exact Or.inr (Or.inl rfl) | exact Or.inr (Or.inr rfl)) (hd : (x == ("__debug__" : Str)) = false := by decide) (hcd : (x == ("__classdict__" : Str)) = false := by decide) : PE X (.Name x pos) (tB K mg W (eVarB i)) :=
  (pe_var hN hv hd hcd).imp fun σ H Q ⟨B, F0, F, ρ, S, p⟩ => by
    unfold eVarB at p
    cases e : ρ[i]? with
    | none => rw [e] at p; exact p.elim
    | some sl =>
      rw [e] at p
      cases sl with
      | un => exact p.elim
      | own ds =>
        obtain ⟨a, xs, h1, h2, h3, h4, h5⟩ := S.own i ds e
        exact ⟨_, h1, p F H _ Stp.refl (.own h4 h5)⟩
      | val d =>
        obtain ⟨v, h1, h2⟩ := S.val i d e
        exact ⟨v, h1, p F H v Stp.refl (.rp h2)⟩
theorem pf_c {e : Expr} {v : V} {d : PyData} (h : PE X e (tC v)) (r : ∀ F H, Rp K F H v d) : PE X e (tF K mg W (eC d)) :=
  h.imp fun σ H Q ⟨B, F0, F, ρ, S, p⟩ => p F H v Stp.refl (r F H)
theorem pf_int {i j} : PE X (.Constant (.int i) j pos) (tF K mg W (eC (.int i))) := pf_c pe_int fun _ _ => .int i
theorem pf_bl {b j} : PE X (.Constant (.bool b) j pos) (tF K mg W (eC (.bool b))) := pf_c pe_bl fun _ _ => .bl b
theorem pf_non {j} : PE X (.Constant .none j pos) (tF K mg W (eC .none)) := pf_c pe_non fun _ _ => .non
theorem pf_str {x j} : PE X (.Constant (.str x) j pos) (tF K mg W (eC (.str x))) := pf_c pe_str fun _ _ => .str x
theorem pf_gint {x : Str} {i : Int} (hg : Gl X x) (hm : ∃ t, X.mg x = some (.int i t)) (hd : (x == ("__debug__" : Str)) = false := by decide) : PE X (.Name x pos) (tF K mg W (eC (.int i))) := by
  obtain ⟨t, hm⟩ := hm
  exact pf_c (pe_glob (v := .int i) hg hm ⟨t, rfl⟩ hd) fun _ _ => .int i
/-- from the region to what is read -/
theorem pf_b {e : Expr} {f : Ro → Res PyData} (h : PE X e (tF K mg W f)) : PE X e (tB K mg W f) :=
  h.imp fun σ H Q ⟨B, F0, F, ρ, S, p⟩ => ⟨B, F0, F, ρ, S, p.imp fun d q F' H' v s r => q F' H' v s (.rp r)⟩
/-- a new list let into the region -/
theorem pf_n {e : Expr} {f : Ro → Res (List PyData)} (h : PE X e (tN K mg W f)) : PE X e (tF K mg W (e1 listD f)) :=
  h.imp fun σ H Q ⟨B, F0, F, ρ, S, p⟩ => by
    refine tE.mk S p fun ds F' H' v _ st ⟨a, xs, ev, hn, nf, ha, r⟩ q => ?_
    subst ev
    have s2 : Stp F H (fun b => F' b ∨ b = a) H' := ⟨fun b h => .inl (st.sub b h), st.keep, fun b h => h.elim (fun z => st.new b z) fun z => .inr (by rw [z]; exact ⟨hn, by rw [ha]; simp⟩)⟩
    refine q _ H' _ s2 (.lst (.inr rfl) ha (r.fk ⟨fun _ h => .inl h, fun _ _ _ h => h⟩))
/-! ### operators by their meaning -/
def Sem2 (K : PySem.W.Frag) (r : R2) (s : PyData → PyData → Option PyData) : Prop := ∀ (F : Rg) (H : Hp) (x y : V) (d e z : PyData) (Q : VK), RpB K F H x d → RpB K F H y e → s d e = some z →
  (∀ F' H' v, Stp F H F' H' → Rp K F' H' v z → Q v H') → r x y H Q
def Sem1 (K : PySem.W.Frag) (r : V → Hp → VK → Prop) (s : PyData → Option PyData) : Prop := ∀ (F : Rg) (H : Hp) (x : V) (d z : PyData) (Q : VK), RpB K F H x d → s d = some z →
  (∀ F' H' v, Stp F H F' H' → Rp K F' H' v z → Q v H') → r x H Q
theorem tOp_of {r : R2} {s : PyData → PyData → Option PyData} {f g : Ro → Res PyData} (hs : Sem2 K r s) {σ : L2.St} {H : Hp} {Q : VK} (h : tF K mg W (e2 s f g) σ H Q) : tOp r (tB K mg W f) (tB K mg W g) σ H Q := by
  obtain ⟨B, F0, F, ρ, S, p⟩ := h
  refine tE.mk S p fun d F1 H1 x _ st1 rx p => ?_
  refine tE.mk (S.stp st1) (p.mono st1.keep) fun e F2 H2 y _ st2 ry p => ?_
  obtain ⟨z, ez, q⟩ := p.ofO
  exact hs F2 H2 x y d e z Q (rx.stp st2) ry ez fun F' H' v st r => q F' H' v (st1.trans (st2.trans st)) r
theorem pf_op {op : Operator} {r : R2} {s : PyData → PyData → Option PyData} {a b : Expr} {f g : Ro → Res PyData} (ho : OpR X (binaryOp op) r) (hs : Sem2 K r s) (ha : PE X a (tB K mg W f)) (hb : PE X b (tB K mg W g)) :
    PE X (.BinOp a op b pos) (tF K mg W (e2 s f g)) := (pe_op ho ha hb).imp fun _ _ _ h => tOp_of hs h
theorem pf_cmp {op : CmpOp} {r : R2} {s : PyData → PyData → Option PyData} {a b : Expr} {f g : Ro → Res PyData} (ho : OpR X (compareOp op) r) (hs : Sem2 K r s) (ha : PE X a (tB K mg W f)) (hb : PE X b (tB K mg W g)) (hm : behindInMarks op b = false) :
    PE X (.Compare a [op] [b] pos) (tF K mg W (e2 s f g)) := (pe_cmpR ho ha hb hm).imp fun _ _ _ h => tOp_of hs h
theorem pf_un {op : UnaryOp} {r : V → Hp → VK → Prop} {s : PyData → Option PyData} {a : Expr} {f : Ro → Res PyData} (ho : UnR X (unaryOp op) r) (hs : Sem1 K r s) (ha : PE X a (tB K mg W f)) : PE X (.UnaryOp op a pos) (tF K mg W (e1 s f)) :=
  (pe_un ho ha).imp fun σ H Q ⟨B, F0, F, ρ, S, p⟩ => by
    refine tE.mk S p fun d F1 H1 x _ st1 rx p => ?_
    obtain ⟨z, ez, q⟩ := p.ofO
    exact hs F1 H1 x d z Q rx ez fun F' H' v st r => q F' H' v (st1.trans st) r
/-- x[i] -/
theorem pf_ix {r : R2} {s : PyData → PyData → Option PyData} {a b : Expr} {f g : Ro → Res PyData} (hr : IxR X r) (hs : Sem2 K r s) (ha : PE X a (tB K mg W f)) (hb : PE X b (tB K mg W g)) (hp : PlainIx b := by exact fun _ _ => rfl) :
    PE X (.Subscript a b pos) (tF K mg W (e2 s f g)) := (pe_ix hr ha hb hp).imp fun _ _ _ h => tOp_of hs h
/-! ### tests -/
theorem pf_tv {e : Expr} {f : Ro → Res PyData} (h : PE X e (tB K mg W f)) (he : ∀ whole, isTrue e X.env whole = (do let v ← whole; standAt e.pos; holding [v] (truthy v)) := by intro _; rfl) : PT X e (tTs K mg W (e1 asB f)) :=
  (pt_val h he).imp fun σ H Q ⟨B, F0, F, ρ, S, p⟩ => by
    refine tE.mk S p fun d F1 H1 x _ st1 rx p => ?_
    obtain ⟨b, eb, q⟩ := p.ofO
    cases d with
    | bool c => cases eb; exact ⟨_, rx.bool', q F1 H1 st1⟩
    | _ => cases eb
theorem pf_tcmp {op : CmpOp} {r : R2} {s : PyData → PyData → Option PyData} {a b : Expr} {f g : Ro → Res PyData} (ho : OpR X (compareOp op) r) (hs : Sem2 K r s) (ha : PE X a (tB K mg W f)) (hb : PE X b (tB K mg W g)) (hm : behindInMarks op b = false) :
    PT X (.Compare a [op] [b] pos) (tTs K mg W (e1 asB (e2 s f g))) :=
  (pt_cmpR ho ha hb hm).imp fun σ H Q ⟨B, F0, F, ρ, S, p⟩ => by
    refine tOp_of hs ⟨B, F0, F, ρ, S, ?_⟩
    unfold e1 at p
    cases e : e2 s f g ρ with
    | ok d =>
      rw [e] at p
      obtain ⟨b, eb, q⟩ := p.ofO
      cases d with
      | bool c => cases eb; exact fun F' H' v st r => ⟨_, (RpB.rp r).bool', q F' H' st⟩
      | _ => cases eb
    | exc c k => rw [e] at p; exact p
    | bad => rw [e] at p; exact p
theorem pf_not {a : Expr} {c : Ro → Res Bool} (h : PT X a (tTs K mg W c)) : PT X (.UnaryOp .Not a pos) (tTs K mg W (eNot c)) :=
  (pt_not h).imp fun σ H Q ⟨B, F0, F, ρ, S, p⟩ => tTs.mk S p fun b F1 H1 _ st q => q F1 H1 st
theorem pf_and1 {a : Expr} {c : Ro → Res Bool} (h : PT X a (tTs K mg W c)) : PW X (.BoolOp .And [a] pos) (tTs K mg W c) := pw_and1 h
theorem pf_or1 {a : Expr} {c : Ro → Res Bool} (h : PT X a (tTs K mg W c)) : PW X (.BoolOp .Or [a] pos) (tTs K mg W c) := pw_or1 h
theorem pf_and {a b : Expr} {rest : List Expr} {c d : Ro → Res Bool} (h : PT X a (tTs K mg W c)) (h2 : PW X (.BoolOp .And (b :: rest) pos) (tTs K mg W d)) : PW X (.BoolOp .And (a :: b :: rest) pos) (tTs K mg W (eAnd c d)) :=
  (pw_and h h2).imp fun σ H Q ⟨B, F0, F, ρ, S, p⟩ => tTs.mk S p fun x F1 H1 _ st q => by
    cases x with
    | true =>
      rw [if_pos rfl]
      exact ⟨B, F0, F1, ρ, S.stp st, (q.mono st.keep).imp fun z h F' H' st2 => h F' H' (st.trans st2)⟩
    | false => rw [if_neg (by decide)]; exact q F1 H1 st
theorem pf_or {a b : Expr} {rest : List Expr} {c d : Ro → Res Bool} (h : PT X a (tTs K mg W c)) (h2 : PW X (.BoolOp .Or (b :: rest) pos) (tTs K mg W d)) : PW X (.BoolOp .Or (a :: b :: rest) pos) (tTs K mg W (eOr c d)) :=
  (pw_or h h2).imp fun σ H Q ⟨B, F0, F, ρ, S, p⟩ => tTs.mk S p fun x F1 H1 _ st q => by
    cases x with
    | false =>
      rw [if_neg (by decide)]
      exact ⟨B, F0, F1, ρ, S.stp st, (q.mono st.keep).imp fun z h F' H' st2 => h F' H' (st.trans st2)⟩
    | true => rw [if_pos rfl]; exact q F1 H1 st
/-! ### and, or, not as values of bools -/
def eBool (c : Ro → Res Bool) : Ro → Res PyData := fun ρ => (c ρ).bind fun b => .ok (.bool b)
abbrev eTb (f : Ro → Res PyData) : Ro → Res Bool := e1 asB f
theorem pf_v1 {op} {a : Expr} {f : Ro → Res PyData} (h : PE X a (tB K mg W f)) : PE X (.BoolOp op [a] pos) (tF K mg W (eBool (eTb f))) :=
  (pe_one h).imp fun σ H Q ⟨B, F0, F, ρ, S, p⟩ => by
    refine ⟨B, F0, F, ρ, S, ?_⟩
    unfold eBool eTb e1 at p
    cases e : f ρ with
    | ok d =>
      rw [e] at p
      cases d with
      | bool c => exact fun F' H' v st r => p F' H' v st (by cases r.bool'; exact .bl c)
      | _ => exact p.elim
    | exc c k => rw [e] at p; exact p
    | bad => rw [e] at p; exact p
theorem pf_vand {a b : Expr} {rest : List Expr} {f : Ro → Res PyData} {d : Ro → Res Bool} (h : PE X a (tB K mg W f)) (h2 : PE X (.BoolOp .And (b :: rest) pos) (tF K mg W (eBool d))) : PE X (.BoolOp .And (a :: b :: rest) pos) (tF K mg W (eBool (eAnd (eTb f) d))) :=
  (pe_and h h2).imp fun σ H Q ⟨B, F0, F, ρ, S, p⟩ => by
    refine ⟨B, F0, F, ρ, S, ?_⟩
    unfold eBool eAnd eTb e1 at p
    cases e : f ρ with
    | ok z =>
      rw [e] at p
      cases z with
      | bool c =>
        intro F' H' v st r
        refine ⟨c, r.bool', ?_⟩
        cases c with
        | true =>
          rw [if_pos rfl]
          refine ⟨B, F0, F', ρ, S.stp st, ?_⟩
          have p2 : PostE mg W σ H _ ((d ρ).bind fun b => .ok (PyData.bool b)) := p
          exact (p2.mono st.keep).imp fun z h F2 H2 v2 st2 r2 => h F2 H2 v2 (st.trans st2) r2
        | false =>
          rw [if_neg (by decide)]
          have p2 : PostE mg W σ H _ (Res.ok (PyData.bool false)) := p
          exact p2 F' H' (.bl false) st (.bl false)
      | _ => exact p.elim
    | exc c k => rw [e] at p; exact p
    | bad => rw [e] at p; exact p
theorem pf_vor {a b : Expr} {rest : List Expr} {f : Ro → Res PyData} {d : Ro → Res Bool} (h : PE X a (tB K mg W f)) (h2 : PE X (.BoolOp .Or (b :: rest) pos) (tF K mg W (eBool d))) : PE X (.BoolOp .Or (a :: b :: rest) pos) (tF K mg W (eBool (eOr (eTb f) d))) :=
  (pe_or h h2).imp fun σ H Q ⟨B, F0, F, ρ, S, p⟩ => by
    refine ⟨B, F0, F, ρ, S, ?_⟩
    unfold eBool eOr eTb e1 at p
    cases e : f ρ with
    | ok z =>
      rw [e] at p
      cases z with
      | bool c =>
        intro F' H' v st r
        refine ⟨c, r.bool', ?_⟩
        cases c with
        | false =>
          rw [if_neg (by decide)]
          refine ⟨B, F0, F', ρ, S.stp st, ?_⟩
          have p2 : PostE mg W σ H _ ((d ρ).bind fun b => .ok (PyData.bool b)) := p
          exact (p2.mono st.keep).imp fun z h F2 H2 v2 st2 r2 => h F2 H2 v2 (st.trans st2) r2
        | true =>
          rw [if_pos rfl]
          have p2 : PostE mg W σ H _ (Res.ok (PyData.bool true)) := p
          exact p2 F' H' (.bl true) st (.bl true)
      | _ => exact p.elim
    | exc c k => rw [e] at p; exact p
    | bad => rw [e] at p; exact p
theorem pf_vnot {a : Expr} {f : Ro → Res PyData} (h : PE X a (tB K mg W f)) : PE X (.UnaryOp .Not a pos) (tF K mg W (eBool (eNot (eTb f)))) :=
  (pe_not h).imp fun σ H Q ⟨B, F0, F, ρ, S, p⟩ => by
    refine ⟨B, F0, F, ρ, S, ?_⟩
    unfold eBool eNot eTb e1 at p
    cases e : f ρ with
    | ok z =>
      rw [e] at p
      cases z with
      | bool c => exact fun F' H' v st r => ⟨c, r.bool', p F' H' _ st (.bl _)⟩
      | _ => exact p.elim
    | exc c k => rw [e] at p; exact p
    | bad => rw [e] at p; exact p
/-- a if c else b -/
theorem pf_ifE {Rl : Rg → Hp → Rg → Hp → V → PyData → Prop} {c a b : Expr} {t : Ro → Res Bool} {f g : Ro → Res PyData} (hR : Rl = RF K ∨ Rl = RB K) (hc : PT X c (tTs K mg W t)) (ha : PE X a (tE K mg W Rl f)) (hb : PE X b (tE K mg W Rl g)) : PE X (.IfExp c a b pos) (tE K mg W Rl (eIf t f g)) :=
  (pe_ifExp hc ha hb).imp fun σ H Q ⟨B, F0, F, ρ, S, p⟩ => tTs.mk S p fun x F1 H1 _ st q => by
    have fin : ∀ {f : Ro → Res PyData}, PostE mg W σ H (fun a => ∀ F' H' v, Stp F H F' H' → Rl F H F' H' v a → Q v H') (f ρ) → tE K mg W Rl f σ H1 Q := fun {f} q =>
      ⟨B, F0, F1, ρ, S.stp st, (q.mono st.keep).imp fun d h F' H' v st2 r => h F' H' v (st.trans st2) (by rcases hR with rfl | rfl <;> exact r)⟩
    cases x with
    | true => rw [if_pos rfl] at q ⊢; exact fin q
    | false => rw [if_neg (by decide)] at q ⊢; exact fin q
/-! ### lists of expressions -/
theorem pf_nil : PA X [] (tAs K mg W eNil) := pa_nil.imp fun σ H Q ⟨B, F0, F, ρ, S, p⟩ => p F H [] Stp.refl .nil
theorem pf_cons {e : Expr} {es : List Expr} {f : Ro → Res PyData} {g : Ro → Res (List PyData)} (h : PE X e (tF K mg W f)) (h2 : PA X es (tAs K mg W g)) (hs : starEach (e :: es) X.env = (false, eval e X.env) :: starEach es X.env := by rfl) :
    PA X (e :: es) (tAs K mg W (eCons f g)) := (pa_cons h h2 hs).imp fun σ H Q ⟨B, F0, F, ρ, S, p⟩ => by
  refine tE.mk S p fun d F1 H1 x _ st1 rx p => ?_
  refine tAs.mk (S.stp st1) (p.mono st1.keep) fun ds F2 H2 xs _ st2 rxs q => ?_
  exact q F2 H2 (x :: xs) (st1.trans st2) (.cons (rx.stp st2) rxs)
theorem pf_nilB : PA X [] (tABs K mg W eNil) := pa_nil.imp fun σ H Q ⟨B, F0, F, ρ, S, p⟩ => p F H [] Stp.refl .nil
theorem RpBs.stp {F F' : Rg} {H H' : Hp} {vs : List V} {ds : List PyData} (s : Stp F H F' H') (h : RpBs K F H vs ds) : RpBs K F' H' vs ds := by
  induction h with
  | nil => exact .nil
  | cons a _ ih => exact .cons (a.stp s) ih
theorem pf_consB {e : Expr} {es : List Expr} {f : Ro → Res PyData} {g : Ro → Res (List PyData)} (h : PE X e (tB K mg W f)) (h2 : PA X es (tABs K mg W g)) (hs : starEach (e :: es) X.env = (false, eval e X.env) :: starEach es X.env := by rfl) :
    PA X (e :: es) (tABs K mg W (eCons f g)) := (pa_cons h h2 hs).imp fun σ H Q ⟨B, F0, F, ρ, S, p⟩ => by
  refine tE.mk S p fun d F1 H1 x _ st1 rx p => ?_
  refine tABs.mk (S.stp st1) (p.mono st1.keep) fun ds F2 H2 xs _ st2 rxs q => ?_
  exact q F2 H2 (x :: xs) (st1.trans st2) (.cons (rx.stp st2) rxs)
/-- (a, b, ..) -/
def tupD (ds : List PyData) : Option PyData := some (.tuple ds)
theorem pf_tup {es : List Expr} {x1} {g : Ro → Res (List PyData)} (h : PA X es (tAs K mg W g)) (hl : es.length ≤ 64 := by decide) (hg : ∀ ρ ds, g ρ = .ok ds → ds.length = es.length) : PE X (.Tuple es x1 pos) (tF K mg W (e1 tupD g)) :=
  (pe_tup h).imp fun σ H Q ⟨B, F0, F, ρ, S, p⟩ => by
    refine tAs.mk S p fun ds F1 H1 xs e st rxs q => ⟨?_, fun a ha => ?_⟩
    · rw [rxs.length, hg ρ ds e, sizeLine_eq]; omega
    · exact q _ _ _ (st.trans (Stp.add ha)) (.tup (.inr rfl) upd_same (rxs.stp (Stp.add ha)))
theorem pf_lst {es : List Expr} {g : Ro → Res (List PyData)} (h : PA X es (tAs K mg W g)) (hl : es.length ≤ 64 := by decide) (hg : ∀ ρ ds, g ρ = .ok ds → ds.length = es.length) : PE X (.List es pos) (tN K mg W g) :=
  (pe_lst h).imp fun σ H Q ⟨B, F0, F, ρ, S, p⟩ => by
    have p' : PostE mg W σ H (fun a => ∀ F' H' v, Stp F H F' H' → RN K F H F' H' v a → Q v H') ((g ρ).bind fun a => .ok a) := by
      cases e : g ρ with
      | _ => rw [e] at p; exact p
    refine tAs.mk S p' fun ds F1 H1 xs e st rxs q => ⟨?_, fun a ha => ?_⟩
    · rw [rxs.length, hg ρ ds e, sizeLine_eq]; omega
    · have hn : H a = none := st.keep.free ha
      refine q F1 _ _ (st.trans (Stp.lay ha)) ⟨a, xs, rfl, hn, fun z => (S.stp st).trk a z ha, upd_same, rxs.stp (Stp.lay ha)⟩
theorem len_nil : ∀ (ρ : Ro) ds, eNil ρ = .ok ds → ds.length = 0 := fun ρ ds h => by cases h; rfl
theorem len_cons {f : Ro → Res PyData} {g : Ro → Res (List PyData)} {n : Nat} (h : ∀ ρ ds, g ρ = .ok ds → ds.length = n) : ∀ (ρ : Ro) ds, eCons f g ρ = .ok ds → ds.length = n + 1 := fun ρ ds e => by
  unfold eCons at e
  cases e1 : f ρ with
  | ok d =>
    rw [e1] at e
    cases e2 : g ρ with
    | ok r => rw [e2] at e; cases e; rw [List.length_cons, h ρ r e2]
    | exc c k => rw [e2] at e; cases e
    | bad => rw [e2] at e; cases e
  | exc c k => rw [e1] at e; cases e
  | bad => rw [e1] at e; cases e
end
end Pf
/-! Pf3: operators, comparisons, subscripts, built-ins. -/
namespace Pf
open PySem PySem.Spec PyProof.Rows L2

/-! ### arithmetic -/
def addD : PyData → PyData → Option PyData
  | .int a, .int b => some (.int (a + b))
  | .str a, .str b => if a.length + b.length ≤ 16777216 then some (.str (a ++ b)) else none
  | .list xs, .list ys => if xs.length + ys.length ≤ 16777216 then some (.list (xs ++ ys)) else none
  | .tuple xs, .tuple ys => if xs ≠ [] ∧ ys ≠ [] ∧ xs.length + ys.length ≤ 16777216 then some (.tuple (xs ++ ys)) else none
  | _, _ => none
def subD : PyData → PyData → Option PyData
  | .int a, .int b => some (.int (a - b))
  | _, _ => none
def okMul (a b : Int) : Bool := decide (a.natAbs.log2 + b.natAbs.log2 < 1000000)
def mulD : PyData → PyData → Option PyData
  | .int a, .int b => if okMul a b = true then some (.int (a * b)) else none
  | .list xs, .int k => if 0 ≤ k ∧ k < 16777216 ∧ xs.length * k.toNat ≤ 16777216 then some (.list (List.replicate k.toNat xs).flatten) else none
  | _, _ => none
def divD : PyData → PyData → Option PyData
  | .int a, .int b => if 0 < b ∧ b.natAbs.log2 < 9000 then some (.int (a / b)) else none
  | _, _ => none
def modD : PyData → PyData → Option PyData
  | .int a, .int b => if 0 < b then some (.int (a % b)) else none
  | _, _ => none
def powD : PyData → PyData → Option PyData
  | .int a, .int b => if 0 ≤ b ∧ b ≤ 1000000 ∧ a.natAbs < 2 ^ 64 then some (.int (a ^ b.toNat)) else none
  | _, _ => none
def negD : PyData → Option PyData
  | .int a => some (.int (-a))
  | _ => none
section
variable {K : PySem.W.Frag} {F : Rg} {H : Hp}
theorem Rp.newL {a : Addr} {xs : List V} {ds : List PyData} (h : H a = none) (r : Rps K F H xs ds) : Rp K (fun b => F b ∨ b = a) (upd H a (.lst xs)) (.ref a) (.list ds) := .lst (.inr rfl) upd_same (r.stp (Stp.add h))
theorem Rp.newT {a : Addr} {xs : List V} {ds : List PyData} (h : H a = none) (r : Rps K F H xs ds) : Rp K (fun b => F b ∨ b = a) (upd H a (.tup xs)) (.ref a) (.tuple ds) := .tup (.inr rfl) upd_same (r.stp (Stp.add h))
theorem Rps.ne {xs : List V} {ds : List PyData} (r : Rps K F H xs ds) (h : ds ≠ []) : xs ≠ [] := by
  intro z
  subst z
  cases r
  exact h rfl
theorem Rps.flat {xs : List V} {ds : List PyData} (r : Rps K F H xs ds) : ∀ k : Nat, Rps K F H (List.replicate k xs).flatten (List.replicate k ds).flatten
  | 0 => .nil
  | k + 1 => by
    rw [List.replicate_succ, List.replicate_succ, List.flatten_cons, List.flatten_cons]
    exact Rps.append r (Rps.flat r k)
end
section
variable {X : Cx} {K : PySem.W.Frag} {mg : Str → Option Value} {W : WX} {pos : Pos}
def rAddA (K : PySem.W.Frag) : R2 := fun x y H Q => (rI0 fun i j => .int (i + j)) x y H Q ∨ (∃ i j, x = .str i ∧ y = .str j ∧ i.length + j.length ≤ sizeLine ∧ Q (.str (i ++ j)) H) ∨ rCat x y H Q ∨ rCatT K x y H Q
theorem opr_add : OpR X (binaryOp .Add) (rAddA X.K) := op_add.or (op_add_str.or (op_cat.or op_catT))
theorem sem_add : Sem2 K (rAddA K) addD := by
  intro F H x y d e z Q rx ry hs h
  unfold addD at hs
  split at hs
  · cases hs
    exact .inl ⟨_, _, rx.int', ry.int', h F H _ Stp.refl (.int _)⟩
  · split at hs
    · rename_i hl
      cases hs
      exact .inr (.inl ⟨_, _, rx.str', ry.str', by rw [sizeLine_eq]; exact hl, h F H _ Stp.refl (.str _)⟩)
    · cases hs
  · split at hs
    · rename_i hl
      cases hs
      obtain ⟨a, xs, rfl, ha, r1⟩ := rx.list
      obtain ⟨b, ys, rfl, hb, r2⟩ := ry.list
      refine .inr (.inr (.inl ⟨a, b, xs, ys, rfl, rfl, ha, hb, by rw [r1.length, r2.length, sizeLine_eq]; exact hl, fun p hp => h _ _ _ (Stp.add hp) (Rp.newL hp (r1.append r2))⟩))
    · cases hs
  · split at hs
    · rename_i hl
      cases hs
      obtain ⟨a, xs, rfl, ha, r1⟩ := rx.tuple
      obtain ⟨b, ys, rfl, hb, r2⟩ := ry.tuple
      refine .inr (.inr (.inr ⟨a, b, xs, ys, rfl, rfl, ha, hb, r1.ne hl.1, by rw [r1.length, r2.length, sizeLine_eq]; exact hl.2.2, fun z => absurd z (r2.ne hl.2.1), fun _ p hp => h _ _ _ (Stp.add hp) (Rp.newT hp (r1.append r2))⟩))
    · cases hs
  · cases hs
theorem sem_sub : Sem2 K (rI0 fun i j => .int (i - j)) subD := by
  intro F H x y d e z Q rx ry hs h
  unfold subD at hs
  split at hs
  · cases hs
    exact ⟨_, _, rx.int', ry.int', h F H _ Stp.refl (.int _)⟩
  · cases hs
def rMulA : R2 := fun x y H Q => (rI CMulW fun i j => .int (i * j)) x y H Q ∨ rRep x y H Q
theorem opr_mul : OpR X (binaryOp .Mult) rMulA := op_mulW.or op_rep
theorem sem_mul : Sem2 K rMulA mulD := by
  intro F H x y d e z Q rx ry hs h
  unfold mulD at hs
  split at hs
  · split at hs
    · rename_i hl
      cases hs
      exact .inl ⟨_, _, rx.int', ry.int', (by unfold CMulW; unfold okMul at hl; exact of_decide_eq_true hl), h F H _ Stp.refl (.int _)⟩
    · cases hs
  · split at hs
    · rename_i hl
      cases hs
      obtain ⟨a, xs, rfl, ha, r1⟩ := rx.list
      refine .inr ⟨a, _, xs, rfl, ry.int', ha, by omega, by omega, by rw [r1.length, sizeLine_eq]; exact hl.2.2, fun p hp => h _ _ _ (Stp.add hp) (Rp.newL hp (r1.flat _))⟩
    · cases hs
  · cases hs
theorem sem_div : Sem2 K (rI CDivW fun i j => .int (i / j)) divD := by
  intro F H x y d e z Q rx ry hs h
  unfold divD at hs
  split at hs
  · split at hs
    · rename_i hl
      cases hs
      exact ⟨_, _, rx.int', ry.int', hl, h F H _ Stp.refl (.int _)⟩
    · cases hs
  · cases hs
theorem sem_mod : Sem2 K (rI (fun _ j => 0 < j) fun i j => .int (i % j)) modD := by
  intro F H x y d e z Q rx ry hs h
  unfold modD at hs
  split at hs
  · split at hs
    · rename_i hl
      cases hs
      exact ⟨_, _, rx.int', ry.int', hl, h F H _ Stp.refl (.int _)⟩
    · cases hs
  · cases hs
theorem sem_pow : Sem2 K (rI CPow fun i j => .int (i ^ j.toNat)) powD := by
  intro F H x y d e z Q rx ry hs h
  unfold powD at hs
  split at hs
  · split at hs
    · rename_i hl
      cases hs
      exact ⟨_, _, rx.int', ry.int', hl, h F H _ Stp.refl (.int _)⟩
    · cases hs
  · cases hs
theorem sem_neg : Sem1 K (rU fun i => .int (-i)) negD := by
  intro F H x d z Q rx hs h
  unfold negD at hs
  split at hs
  · cases hs
    exact ⟨_, rx.int', h F H _ Stp.refl (.int _)⟩
  · cases hs
theorem pf_add {a b : Expr} {f g : Ro → Res PyData} (hK : X.K = K) (ha : PE X a (tB K mg W f)) (hb : PE X b (tB K mg W g)) : PE X (.BinOp a .Add b pos) (tF K mg W (e2 addD f g)) := pf_op opr_add (hK ▸ sem_add) ha hb
theorem pf_sub {a b : Expr} {f g : Ro → Res PyData} (ha : PE X a (tB K mg W f)) (hb : PE X b (tB K mg W g)) : PE X (.BinOp a .Sub b pos) (tF K mg W (e2 subD f g)) := pf_op op_sub sem_sub ha hb
theorem pf_mul {a b : Expr} {f g : Ro → Res PyData} (ha : PE X a (tB K mg W f)) (hb : PE X b (tB K mg W g)) : PE X (.BinOp a .Mult b pos) (tF K mg W (e2 mulD f g)) := pf_op opr_mul sem_mul ha hb
theorem pf_div {a b : Expr} {f g : Ro → Res PyData} (ha : PE X a (tB K mg W f)) (hb : PE X b (tB K mg W g)) : PE X (.BinOp a .FloorDiv b pos) (tF K mg W (e2 divD f g)) := pf_op op_fdivW sem_div ha hb
theorem pf_mod {a b : Expr} {f g : Ro → Res PyData} (ha : PE X a (tB K mg W f)) (hb : PE X b (tB K mg W g)) : PE X (.BinOp a .Mod b pos) (tF K mg W (e2 modD f g)) := pf_op op_mod sem_mod ha hb
theorem pf_pow {a b : Expr} {f g : Ro → Res PyData} (ha : PE X a (tB K mg W f)) (hb : PE X b (tB K mg W g)) : PE X (.BinOp a .Pow b pos) (tF K mg W (e2 powD f g)) := pf_op op_pow sem_pow ha hb
theorem pf_neg {a : Expr} {f : Ro → Res PyData} (ha : PE X a (tB K mg W f)) : PE X (.UnaryOp .USub a pos) (tF K mg W (e1 negD f)) := pf_un un_neg sem_neg ha
/-- a + b of lists, the result one's own -/
def listL : PyData → Option (List PyData)
  | .list ds => some ds
  | _ => none
def catL : PyData → PyData → Option (List PyData)
  | .list xs, .list ys => if xs.length + ys.length ≤ 16777216 then some (xs ++ ys) else none
  | _, _ => none
theorem pf_catN {a b : Expr} {f g : Ro → Res PyData} (ha : PE X a (tB K mg W f)) (hb : PE X b (tB K mg W g)) : PE X (.BinOp a .Add b pos) (tN K mg W (e2 catL f g)) :=
  (pe_op op_cat ha hb).imp fun σ H Q ⟨B, F0, F, ρ, S, p⟩ => by
    refine tE.mk S p fun d F1 H1 x _ st1 rx p => ?_
    refine tE.mk (S.stp st1) (p.mono st1.keep) fun e F2 H2 y _ st2 ry p => ?_
    obtain ⟨z, ez, q⟩ := p.ofO
    unfold catL at ez
    split at ez
    · split at ez
      · rename_i hl
        cases ez
        obtain ⟨a, xs, rfl, ha, r1⟩ := (rx.stp st2).list
        obtain ⟨b, ys, rfl, hb, r2⟩ := ry.list
        refine ⟨a, b, xs, ys, rfl, rfl, ha, hb, by rw [r1.length, r2.length, sizeLine_eq]; exact hl, fun p hp => ?_⟩
        have s12 := st1.trans st2
        exact q _ _ _ (s12.trans (Stp.lay hp)) ⟨p, _, rfl, s12.keep.free hp, fun z => (S.stp s12).trk p z hp, upd_same, (r1.append r2).stp (Stp.lay hp)⟩
      · cases ez
    · cases ez
def repL : PyData → PyData → Option (List PyData)
  | .list xs, .int k => if 0 ≤ k ∧ k < 16777216 ∧ xs.length * k.toNat ≤ 16777216 then some (List.replicate k.toNat xs).flatten else none
  | _, _ => none
theorem pf_repN {a b : Expr} {f g : Ro → Res PyData} (ha : PE X a (tB K mg W f)) (hb : PE X b (tB K mg W g)) : PE X (.BinOp a .Mult b pos) (tN K mg W (e2 repL f g)) :=
  (pe_op op_rep ha hb).imp fun σ H Q ⟨B, F0, F, ρ, S, p⟩ => by
    refine tE.mk S p fun d F1 H1 x _ st1 rx p => ?_
    refine tE.mk (S.stp st1) (p.mono st1.keep) fun e F2 H2 y _ st2 ry p => ?_
    obtain ⟨z, ez, q⟩ := p.ofO
    unfold repL at ez
    split at ez
    · split at ez
      · rename_i hl
        cases ez
        obtain ⟨a, xs, rfl, ha, r1⟩ := (rx.stp st2).list
        refine ⟨a, _, xs, rfl, ry.int', ha, by omega, by omega, by rw [r1.length, sizeLine_eq]; exact hl.2.2, fun p hp => ?_⟩
        have s12 := st1.trans st2
        exact q _ _ _ (s12.trans (Stp.lay hp)) ⟨p, _, rfl, s12.keep.free hp, fun z => (S.stp s12).trk p z hp, upd_same, (r1.flat _).stp (Stp.lay hp)⟩
      · cases ez
    · cases ez

/-! ### comparisons -/
def ltD : PyData → PyData → Option PyData
  | .int a, .int b => some (.bool (decide (a < b)))
  | _, _ => none
def leD : PyData → PyData → Option PyData
  | .int a, .int b => some (.bool (decide (a ≤ b)))
  | _, _ => none
def gtD : PyData → PyData → Option PyData
  | .int a, .int b => some (.bool (decide (b < a)))
  | _, _ => none
def geD : PyData → PyData → Option PyData
  | .int a, .int b => some (.bool (decide (b ≤ a)))
  | _, _ => none
def eqD (d e : PyData) : Option PyData := if SeqAt.shaped d = true ∧ SeqAt.shaped e = true then some (.bool (PyData.eqv d e)) else none
def neD (d e : PyData) : Option PyData := if SeqAt.shaped d = true ∧ SeqAt.shaped e = true then some (.bool (!PyData.eqv d e)) else none
def isNo : PyData → Bool
  | .none => true
  | _ => false
def isD : PyData → PyData → Option PyData
  | d, .none => some (.bool (isNo d))
  | .bool a, .bool b => some (.bool (decide (a = b)))
  | _, _ => none
def isnD : PyData → PyData → Option PyData
  | d, .none => some (.bool (!isNo d))
  | .bool a, .bool b => some (.bool (!decide (a = b)))
  | _, _ => none
theorem sem_lt : Sem2 K (rI0 fun i j => .bl (decide (i < j))) ltD := by
  intro F H x y d e z Q rx ry hs h
  unfold ltD at hs
  split at hs
  · cases hs; exact ⟨_, _, rx.int', ry.int', h F H _ Stp.refl (.bl _)⟩
  · cases hs
theorem sem_le : Sem2 K (rI0 fun i j => .bl (decide (i ≤ j))) leD := by
  intro F H x y d e z Q rx ry hs h
  unfold leD at hs
  split at hs
  · cases hs; exact ⟨_, _, rx.int', ry.int', h F H _ Stp.refl (.bl _)⟩
  · cases hs
theorem sem_gt : Sem2 K (rI0 fun i j => .bl (decide (j < i))) gtD := by
  intro F H x y d e z Q rx ry hs h
  unfold gtD at hs
  split at hs
  · cases hs; exact ⟨_, _, rx.int', ry.int', h F H _ Stp.refl (.bl _)⟩
  · cases hs
theorem sem_ge : Sem2 K (rI0 fun i j => .bl (decide (j ≤ i))) geD := by
  intro F H x y d e z Q rx ry hs h
  unfold geD at hs
  split at hs
  · cases hs; exact ⟨_, _, rx.int', ry.int', h F H _ Stp.refl (.bl _)⟩
  · cases hs
theorem sem_eq : Sem2 K (rEqD K) eqD := by
  intro F H x y d e z Q rx ry hs h
  unfold eqD at hs
  split at hs
  · rename_i hl
    cases hs
    exact ⟨d, e, rx.dp (SeqAt.canLay_of_shaped hl.1), ry.dp (SeqAt.canLay_of_shaped hl.2), hl.1, hl.2, h F H _ Stp.refl (.bl _)⟩
  · cases hs
theorem sem_ne : Sem2 K (rNeD K) neD := by
  intro F H x y d e z Q rx ry hs h
  unfold neD at hs
  split at hs
  · rename_i hl
    cases hs
    exact ⟨d, e, rx.dp (SeqAt.canLay_of_shaped hl.1), ry.dp (SeqAt.canLay_of_shaped hl.2), hl.1, hl.2, h F H _ Stp.refl (.bl _)⟩
  · cases hs
def rIsA : R2 := fun x y H Q => (y = .non ∧ Q (.bl (decide (x = .non))) H) ∨ rIsB x y H Q
def rIsnA : R2 := fun x y H Q => (y = .non ∧ Q (.bl (!decide (x = .non))) H) ∨ rNotB x y H Q
theorem opr_is : OpR X (compareOp .Is) rIsA := op_isN.or op_isBl
theorem opr_isn : OpR X (compareOp .IsNot) rIsnA := op_notN.or op_notBl
theorem RpB.isN {F : Rg} {H : Hp} {v : V} {d : PyData} (h : RpB K F H v d) : decide (v = .non) = isNo d := by
  cases h with
  | rp h => cases h <;> rfl
  | own a b => rfl
theorem RpB.isN' {F : Rg} {H : Hp} {v : V} {d : PyData} (h : RpB K F H v d) : (!decide (v = .non)) = !isNo d := by
  cases h with
  | rp h => cases h <;> rfl
  | own a b => rfl
theorem sem_is : Sem2 K rIsA isD := by
  intro F H x y d e z Q rx ry hs h
  unfold isD at hs
  split at hs
  · cases hs
    refine .inl ⟨ry.none', ?_⟩
    rw [rx.isN]
    exact h F H _ Stp.refl (.bl _)
  · cases hs
    exact .inr ⟨_, _, rx.bool', ry.bool', h F H _ Stp.refl (.bl _)⟩
  · cases hs
theorem sem_isn : Sem2 K rIsnA isnD := by
  intro F H x y d e z Q rx ry hs h
  unfold isnD at hs
  split at hs
  · cases hs
    refine .inl ⟨ry.none', ?_⟩
    rw [rx.isN']
    exact h F H _ Stp.refl (.bl _)
  · cases hs
    exact .inr ⟨_, _, rx.bool', ry.bool', h F H _ Stp.refl (.bl _)⟩
  · cases hs
/-- a rule of a comparison, by its operator -/
structure CmpR (X : Cx) (K : PySem.W.Frag) (op : CmpOp) (s : PyData → PyData → Option PyData) : Prop where
  r : ∃ r : R2, OpR X (compareOp op) r ∧ Sem2 K r s
theorem cm_lt : CmpR X K .Lt ltD := ⟨_, op_lt, sem_lt⟩
theorem cm_le : CmpR X K .LtE leD := ⟨_, op_le, sem_le⟩
theorem cm_gt : CmpR X K .Gt gtD := ⟨_, op_gt, sem_gt⟩
theorem cm_ge : CmpR X K .GtE geD := ⟨_, op_ge, sem_ge⟩
theorem cm_eq (hK : X.K = K) (hu : X.A.units + 64 < cLine) : CmpR X K .Eq eqD := ⟨_, op_eqD hu, hK ▸ sem_eq⟩
theorem cm_ne (hK : X.K = K) (hu : X.A.units + 64 < cLine) : CmpR X K .NotEq neD := ⟨_, op_neD hu, hK ▸ sem_ne⟩
theorem cm_is : CmpR X K .Is isD := ⟨_, opr_is, sem_is⟩
theorem cm_isn : CmpR X K .IsNot isnD := ⟨_, opr_isn, sem_isn⟩
theorem pf_cmpV {op : CmpOp} {s : PyData → PyData → Option PyData} {a b : Expr} {f g : Ro → Res PyData} (c : CmpR X K op s) (ha : PE X a (tB K mg W f)) (hb : PE X b (tB K mg W g)) (hm : behindInMarks op b = false := by first | exact nomark _ | rfl) : PE X (.Compare a [op] [b] pos) (tF K mg W (e2 s f g)) := by
  obtain ⟨r, ho, hs⟩ := c.r
  exact pf_cmp ho hs ha hb hm
theorem pf_cmpT {op : CmpOp} {s : PyData → PyData → Option PyData} {a b : Expr} {f g : Ro → Res PyData} (c : CmpR X K op s) (ha : PE X a (tB K mg W f)) (hb : PE X b (tB K mg W g)) (hm : behindInMarks op b = false := by first | exact nomark _ | rfl) : PT X (.Compare a [op] [b] pos) (tTs K mg W (eTb (e2 s f g))) := by
  obtain ⟨r, ho, hs⟩ := c.r
  exact pf_tcmp ho hs ha hb hm
/-- a op b op' c -/
def eChain (s s' : PyData → PyData → Option PyData) (f g h : Ro → Res PyData) : Ro → Res Bool := fun ρ => (f ρ).bind fun d => (g ρ).bind fun e => (ofO ((s d e).bind asB)).bind fun k => if k = true then (h ρ).bind fun u => ofO ((s' e u).bind asB) else .ok false
theorem RpB.asB {F : Rg} {H : Hp} {v : V} {d : PyData} {b : Bool} (h : RpB K F H v d) (e : asB d = some b) : v = .bl b := by
  cases d with
  | bool c => cases e; exact h.bool'
  | _ => cases e
theorem pf_chainT {op op' : CmpOp} {s s' : PyData → PyData → Option PyData} {a b c : Expr} {f g h : Ro → Res PyData} (c1 : CmpR X K op s) (c2 : CmpR X K op' s') (ha : PE X a (tB K mg W f)) (hb : PE X b (tB K mg W g)) (hc : PE X c (tB K mg W h)) (hm : lastMarks [op, op'] [b, c] = false := by with_unfolding_all rfl) :
    PT X (.Compare a [op, op'] [b, c] pos) (tTs K mg W (eChain s s' f g h)) := by
  obtain ⟨r, ho, hs⟩ := c1.r
  obtain ⟨r', ho', hs'⟩ := c2.r
  refine (pt_chain ho ho' ha hb hc hm).imp fun σ H Q ⟨B, F0, F, ρ, S, p⟩ => ?_
  refine tE.mk S p fun d F1 H1 x _ st1 rx p => ?_
  refine tE.mk (S.stp st1) (p.mono st1.keep) fun e F2 H2 y _ st2 ry p => ?_
  have s12 := st1.trans st2
  cases e1 : s d e with
  | none => rw [e1] at p; exact p.elim
  | some z =>
    rw [e1] at p
    refine hs F2 H2 x y d e z _ (rx.stp st2) ry e1 fun F3 H3 v st3 rv => ?_
    have p2 : PostE mg W σ H1 _ ((ofO (asB z)).bind fun k => if k = true then (h ρ).bind fun u => ofO ((s' e u).bind asB) else .ok false) := p
    cases ez : asB z with
    | none => rw [ez] at p2; exact p2.elim
    | some k =>
      rw [ez] at p2
      refine ⟨k, (RpB.rp rv).asB ez, ?_⟩
      cases k with
      | false =>
        rw [if_neg (by decide)]
        have p3 : PostE mg W σ H1 _ (Res.ok false) := p2
        exact ⟨false, rfl, p3 F3 H3 (s12.trans st3)⟩
      | true =>
        rw [if_pos rfl]
        have p3 : PostE mg W σ H1 _ ((h ρ).bind fun u => ofO ((s' e u).bind asB)) := p2
        refine tE.mk (S.stp (s12.trans st3)) (p3.mono (st2.trans st3).keep) fun u F4 H4 w _ st4 rw' p4 => ?_
        obtain ⟨b, eb, q⟩ := p4.ofO
        cases eu : s' e u with
        | none => rw [eu] at eb; cases eb
        | some z2 =>
          rw [eu] at eb
          exact hs' F4 H4 y w e u z2 _ (ry.stp (st3.trans st4)) rw' eu fun F5 H5 v5 st5 rv5 => ⟨b, (RpB.rp rv5).asB eb, q F5 H5 (s12.trans (st3.trans (st4.trans st5)))⟩
theorem pf_chainV {op op' : CmpOp} {s s' : PyData → PyData → Option PyData} {a b c : Expr} {f g h : Ro → Res PyData} (c1 : CmpR X K op s) (c2 : CmpR X K op' s') (ha : PE X a (tB K mg W f)) (hb : PE X b (tB K mg W g)) (hc : PE X c (tB K mg W h)) (hm : lastMarks [op, op'] [b, c] = false := by with_unfolding_all rfl) :
    PE X (.Compare a [op, op'] [b, c] pos) (tF K mg W (eBool (eChain s s' f g h))) := by
  obtain ⟨r, ho, hs⟩ := c1.r
  obtain ⟨r', ho', hs'⟩ := c2.r
  refine (pe_chain ho ho' ha hb hc hm).imp fun σ H Q ⟨B, F0, F, ρ, S, p0⟩ => ?_
  have p : PostE mg W σ H (fun b => ∀ F' H' v, Stp F H F' H' → Rp K F' H' v (.bool b) → Q v H') (eChain s s' f g h ρ) := by
    unfold eBool at p0
    cases e : eChain s s' f g h ρ with
    | ok b => rw [e] at p0; exact p0
    | exc c k => rw [e] at p0; exact p0
    | bad => rw [e] at p0; exact p0
  refine tE.mk S p fun d F1 H1 x _ st1 rx p => ?_
  refine tE.mk (S.stp st1) (p.mono st1.keep) fun e F2 H2 y _ st2 ry p => ?_
  have s12 := st1.trans st2
  cases e1 : s d e with
  | none => rw [e1] at p; exact p.elim
  | some z =>
    rw [e1] at p
    refine hs F2 H2 x y d e z _ (rx.stp st2) ry e1 fun F3 H3 v st3 rv => ?_
    have p2 : PostE mg W σ H1 _ ((ofO (asB z)).bind fun k => if k = true then (h ρ).bind fun u => ofO ((s' e u).bind asB) else .ok false) := p
    cases ez : asB z with
    | none => rw [ez] at p2; exact p2.elim
    | some k =>
      rw [ez] at p2
      refine ⟨k, (RpB.rp rv).asB ez, ?_⟩
      cases k with
      | false =>
        rw [if_neg (by decide)]
        have p3 : PostE mg W σ H1 _ (Res.ok false) := p2
        exact p3 F3 H3 _ (s12.trans st3) (.bl false)
      | true =>
        rw [if_pos rfl]
        have p3 : PostE mg W σ H1 _ ((h ρ).bind fun u => ofO ((s' e u).bind asB)) := p2
        refine tE.mk (S.stp (s12.trans st3)) (p3.mono (st2.trans st3).keep) fun u F4 H4 w _ st4 rw' p4 => ?_
        obtain ⟨b, eb, q⟩ := p4.ofO
        cases eu : s' e u with
        | none => rw [eu] at eb; cases eb
        | some z2 =>
          rw [eu] at eb
          refine hs' F4 H4 y w e u z2 _ (ry.stp (st3.trans st4)) rw' eu fun F5 H5 v5 st5 rv5 => ?_
          cases z2 with
          | bool b2 =>
            cases eb
            exact q F5 H5 v5 (s12.trans (st3.trans (st4.trans st5))) rv5
          | _ => cases eb

/-! ### subscripts -/
def ixD : PyData → PyData → Option PyData
  | .list xs, .int i => atI xs i
  | .tuple xs, .int i => atI xs i
  | .dict ps, .int i => atI (ps.map (·.2)) i
  | _, _ => none
theorem ixN_lt {n : Nat} {i : Int} {j : Nat} (h : ixN n i = some j) : j < n := (ixN_seq h).2.1
theorem Rps.at {F : Rg} {H : Hp} {xs : List V} {ds : List PyData} {i : Int} {d : PyData} (r : Rps K F H xs ds) (h : atI ds i = some d) : ∃ v, atI xs i = some v ∧ Rp K F H v d := by
  unfold atI at h ⊢
  rw [r.length]
  cases e : ixN ds.length i with
  | none => rw [e] at h; cases h
  | some j =>
    rw [e] at h
    obtain ⟨v, h1, h2⟩ := r.get (i := j) h
    exact ⟨v, h1, h2⟩
theorem sem_ix : Sem2 K (rIx K) ixD := by
  intro F H x y d e z Q rx ry hs h
  unfold ixD at hs
  split at hs
  · obtain ⟨a, xs, rfl, ha, r⟩ := rx.list
    obtain ⟨v, h1, h2⟩ := r.at hs
    exact .inl ⟨a, xs, _, v, rfl, ry.int', SqL.of ha, h1, h F H v Stp.refl h2⟩
  · obtain ⟨a, xs, rfl, ha, r⟩ := rx.tuple
    obtain ⟨v, h1, h2⟩ := r.at hs
    exact .inr (.inl ⟨a, xs, _, v, rfl, ry.int', ha, h1, h F H v Stp.refl h2⟩)
  · rename_i ps i
    cases rx with
    | rp rx =>
      have key : ∀ {a : Addr} {ns : List Int}, SqL K H a (ns.map V.int) → atI ((ns.map fun n => (PyData.none, PyData.int n)).map (·.2)) i = some z → rIx K (.ref a) y H Q := fun {a ns} sq hs => by
        have e2 : (ns.map fun n => (PyData.none, PyData.int n)).map (·.2) = ns.map PyData.int := by simp [List.map_map, Function.comp_def]
        rw [e2] at hs
        obtain ⟨v, h1, h2⟩ := (Rps.of_ints (K := K) (F := F) (H := H) (ns := ns)).at hs
        exact .inl ⟨a, _, _, v, rfl, ry.int', sq, h1, h F H v Stp.refl h2⟩
      cases rx with
      | scr f q => exact key (.inl (.inr ⟨_, q⟩)) hs
      | scrK q => exact key (q.sq H) hs
  · cases hs
theorem pf_sub1 {a b : Expr} {f g : Ro → Res PyData} (hK : X.K = K) (ha : PE X a (tB K mg W f)) (hb : PE X b (tB K mg W g)) (hp : PlainIx b := by exact fun _ _ => rfl) : PE X (.Subscript a b pos) (tF K mg W (e2 ixD f g)) := pf_ix ix_seq (hK ▸ sem_ix) ha hb hp
/-- slices -/
def cutD (xs : List PyData) (lo hi : Option Int) : List PyData := (xs.drop (HT.sIx xs.length 0 lo)).take (HT.sIx xs.length xs.length hi - HT.sIx xs.length 0 lo)
def eNone : Ro → Res (Option Int) := fun _ => .ok none
def asI : PyData → Option (Option Int)
  | .int i => some (some i)
  | _ => none
def tPs (K : PySem.W.Frag) (mg : Str → Option Value) (W : WX) (f : Ro → Res (Option Int)) : TO := fun σ H Q =>
  ∃ (B : Hp) (F0 F : Rg) (ρ : Ro), Ste K B F0 F H σ ρ ∧ PostE mg W σ H (fun o => ∀ F' H', Stp F H F' H' → Q o H') (f ρ)
theorem _root_.L2.PO.imp {e : Option Expr} {t t' : TO} (h : PO X e t) (i : ∀ σ H Q, t' σ H Q → t σ H Q) : PO X e t' := ⟨fun pins s σ H Q I q => h.run pins s σ H Q I (i σ H Q q)⟩
theorem pf_pnone : PO X none (tPs K mg W eNone) := po_none.imp fun σ H Q ⟨B, F0, F, ρ, S, p⟩ => p F H Stp.refl
theorem pf_psome {e : Expr} {f : Ro → Res PyData} (h : PE X e (tB K mg W f)) : PO X (some e) (tPs K mg W (e1 asI f)) := (po_some h).imp fun σ H Q ⟨B, F0, F, ρ, S, p⟩ => by
  refine tE.mk S p fun d F1 H1 x _ st rx p => ?_
  obtain ⟨o, eo, q⟩ := p.ofO
  cases d with
  | int i => cases eo; exact ⟨i, rx.int', q F1 H1 st⟩
  | _ => cases eo
theorem tPs.mk {σ : L2.St} {H : Hp} {B : Hp} {F0 F : Rg} {ρ : Ro} {β : Type} {f : Ro → Res (Option Int)} {r : Option Int → Res β} {P : β → Prop} {Q : Option Int → Hp → Prop} (S : Ste K B F0 F H σ ρ) (p : PostE mg W σ H P ((f ρ).bind r))
    (h : ∀ a F' H', f ρ = .ok a → Stp F H F' H' → PostE mg W σ H P (r a) → Q a H') : tPs K mg W f σ H Q := by
  refine ⟨B, F0, F, ρ, S, ?_⟩
  cases e : f ρ with
  | ok a => rw [e] at p; exact fun F' H' s => h a F' H' e s p
  | exc c k => rw [e] at p; exact p
  | bad => rw [e] at p; exact p
def eSl {β : Type} (s : PyData → Option Int → Option Int → Option β) (f : Ro → Res PyData) (l u : Ro → Res (Option Int)) : Ro → Res β := fun ρ => (f ρ).bind fun d => (l ρ).bind fun i => (u ρ).bind fun j => ofO (s d i j)
def slL (d : PyData) (i j : Option Int) : Option (List PyData) := match d with
  | .list xs => some (cutD xs i j)
  | _ => none
def slT (d : PyData) (i j : Option Int) : Option PyData := match d with
  | .list xs => some (.list (cutD xs i j))
  | .tuple xs => if HT.sIx xs.length 0 i = 0 ∧ HT.sIx xs.length xs.length j = xs.length then none else some (.tuple (cutD xs i j))
  | _ => none
theorem Rps.cut {F : Rg} {H : Hp} {xs : List V} {ds : List PyData} (r : Rps K F H xs ds) (i j : Option Int) : Rps K F H (cutV xs i j) (cutD ds i j) := by
  unfold cutV cutD
  rw [r.length]
  exact Rps.take _ (Rps.drop _ r)
theorem pf_slN {e : Expr} {lo hi : Option Expr} {p2 : Pos} {f : Ro → Res PyData} {l u : Ro → Res (Option Int)} (he : PE X e (tB K mg W f)) (hl : PO X lo (tPs K mg W l)) (hu : PO X hi (tPs K mg W u)) : PE X (.Subscript e (.Slice lo hi none p2) pos) (tN K mg W (eSl slL f l u)) :=
  (pe_slice sl_list he hl hu).imp fun σ H Q ⟨B, F0, F, ρ, S, p⟩ => by
    refine tE.mk S p fun d F1 H1 x _ st1 rx p => ?_
    refine tPs.mk (S.stp st1) (p.mono st1.keep) fun i F2 H2 _ st2 p => ?_
    refine tPs.mk (S.stp (st1.trans st2)) (p.mono st2.keep) fun j F3 H3 _ st3 p => ?_
    obtain ⟨z, ez, q⟩ := p.ofO
    have s13 := st1.trans (st2.trans st3)
    cases d with
    | list ds =>
      cases ez
      obtain ⟨a, xs, rfl, ha, r⟩ := (rx.stp (st2.trans st3)).list
      exact ⟨a, xs, rfl, SqL.of ha, fun p hp => q _ _ _ (s13.trans (Stp.lay hp)) ⟨p, _, rfl, s13.keep.free hp, fun z => (S.stp s13).trk p z hp, upd_same, (r.cut i j).stp (Stp.lay hp)⟩⟩
    | _ => cases ez
theorem pf_slF {e : Expr} {lo hi : Option Expr} {p2 : Pos} {f : Ro → Res PyData} {l u : Ro → Res (Option Int)} (hK : X.K = K) (he : PE X e (tB K mg W f)) (hl : PO X lo (tPs K mg W l)) (hu : PO X hi (tPs K mg W u)) : PE X (.Subscript e (.Slice lo hi none p2) pos) (tF K mg W (eSl slT f l u)) :=
  (pe_slice (sl_list.or sl_tup) he hl hu).imp fun σ H Q ⟨B, F0, F, ρ, S, p⟩ => by
    refine tE.mk S p fun d F1 H1 x _ st1 rx p => ?_
    refine tPs.mk (S.stp st1) (p.mono st1.keep) fun i F2 H2 _ st2 p => ?_
    refine tPs.mk (S.stp (st1.trans st2)) (p.mono st2.keep) fun j F3 H3 _ st3 p => ?_
    obtain ⟨z, ez, q⟩ := p.ofO
    have s13 := st1.trans (st2.trans st3)
    cases d with
    | list ds =>
      cases ez
      obtain ⟨a, xs, rfl, ha, r⟩ := (rx.stp (st2.trans st3)).list
      exact .inl ⟨a, xs, rfl, SqL.of ha, fun p hp => q _ _ _ (s13.trans (Stp.add hp)) (Rp.newL hp (r.cut i j))⟩
    | tuple ds =>
      unfold slT at ez
      dsimp only at ez
      split at ez
      · cases ez
      · rename_i hn
        cases ez
        obtain ⟨a, xs, rfl, ha, r⟩ := (rx.stp (st2.trans st3)).tuple
        exact .inr ⟨a, xs, rfl, hK ▸ ha, by rw [r.length]; exact hn, fun p hp => q _ _ _ (s13.trans (Stp.add hp)) (Rp.newT hp (r.cut i j))⟩
    | _ => cases ez
/-- xs[::-1] -/
def revL : PyData → Option (List PyData)
  | .list xs => some xs.reverse
  | _ => none
theorem pf_revN {e : Expr} {k : Nat} {p1 p2 p3 : Pos} {f : Ro → Res PyData} (he : PE X e (tB K mg W f)) : PE X (.Subscript e (.Slice none none (some (.UnaryOp .USub (.Constant (.int 1) k p1) p2)) p3) pos) (tN K mg W (e1 revL f)) :=
  (pe_revL he).imp fun σ H Q ⟨B, F0, F, ρ, S, p⟩ => by
    refine tE.mk S p fun d F1 H1 x _ st rx p => ?_
    obtain ⟨z, ez, q⟩ := p.ofO
    cases d with
    | list ds =>
      cases ez
      obtain ⟨a, xs, rfl, ha, r⟩ := rx.list
      exact ⟨a, xs, rfl, SqL.of ha, fun p hp => q _ _ _ (st.trans (Stp.lay hp)) ⟨p, _, rfl, st.keep.free hp, fun z => (S.stp st).trk p z hp, upd_same, r.reverse.stp (Stp.lay hp)⟩⟩
    | _ => cases ez

/-! ### built-ins -/
def SemC (K : PySem.W.Frag) (r : List V → Hp → VK → Prop) (s : List PyData → Option PyData) : Prop := ∀ (F : Rg) (H : Hp) (vs : List V) (ds : List PyData) (z : PyData) (Q : VK), RpBs K F H vs ds → s ds = some z →
  (∀ F' H' v, Stp F H F' H' → Rp K F' H' v z → Q v H') → r vs H Q
theorem tCB_of {r : List V → Hp → VK → Prop} {s : List PyData → Option PyData} {g : Ro → Res (List PyData)} (hs : SemC K r s) {σ : L2.St} {H : Hp} {Q : VK} (h : tF K mg W (e1 s g) σ H Q) : tCB r (tABs K mg W g) σ H Q := by
  obtain ⟨B, F0, F, ρ, S, p⟩ := h
  refine tABs.mk S p fun ds F1 H1 vs _ st rs p => ?_
  obtain ⟨z, ez, q⟩ := p.ofO
  exact hs F1 H1 vs ds z Q rs ez fun F' H' v st2 r => q F' H' v (st.trans st2) r
theorem pf_callB {id : String} {x : Str} {p : Pos} {r : List V → Hp → VK → Prop} {s : List PyData → Option PyData} {e : Expr} {es : List Expr} {g : Ro → Res (List PyData)} (hc : CallR X (.builtin id) r) (hs : SemC K r s) (hg : Gl X x) (hm : X.mg x = none) (hv : bootBuiltins x = some (.builtin id)) (ha : PA X (e :: es) (tABs K mg W g))
    (hn : x ≠ "__name__" := by decide) (hdb : (x == ("__debug__" : Str)) = false := by decide) (he : starEach (e :: es) X.env = (false, eval e X.env) :: starEach es X.env := by rfl) (hpl : (backTo pos (starEach es X.env)).any (·.1) = false := by rfl) :
    PE X (.Call (.Name x p) (e :: es) [] pos) (tF K mg W (e1 s g)) := (pe_callB hc hg hm hv ha hn hdb he hpl).imp fun _ _ _ h => tCB_of hs h
theorem pf_callTy {T : String} {x : Str} {p : Pos} {r : List V → Hp → VK → Prop} {s : List PyData → Option PyData} {e : Expr} {es : List Expr} {g : Ro → Res (List PyData)} (hc : CallR X (.type T) r) (hs : SemC K r s) (hg : Gl X x) (hm : X.mg x = none) (hv : bootBuiltins x = some (.type T)) (ha : PA X (e :: es) (tABs K mg W g))
    (hn : x ≠ "__name__" := by decide) (hdb : (x == ("__debug__" : Str)) = false := by decide) (he : starEach (e :: es) X.env = (false, eval e X.env) :: starEach es X.env := by rfl) (hpl : (backTo pos (starEach es X.env)).any (·.1) = false := by rfl) :
    PE X (.Call (.Name x p) (e :: es) [] pos) (tF K mg W (e1 s g)) := (pe_callTy hc hg hm hv ha hn hdb he hpl).imp fun _ _ _ h => tCB_of hs h
/-- the result a new list of one's own -/
def SemCN (K : PySem.W.Frag) (r : List V → Hp → VK → Prop) (s : List PyData → Option (List PyData)) : Prop := ∀ (F : Rg) (H : Hp) (vs : List V) (ds z : List PyData) (Q : VK), RpBs K F H vs ds → s ds = some z →
  (∀ p xs, H p = none → Rps K F H xs z → Q (.ref p) (upd H p (.lst xs))) → r vs H Q
theorem tCBN_of {r : List V → Hp → VK → Prop} {s : List PyData → Option (List PyData)} {g : Ro → Res (List PyData)} (hs : SemCN K r s) {σ : L2.St} {H : Hp} {Q : VK} (h : tN K mg W (e1 s g) σ H Q) : tCB r (tABs K mg W g) σ H Q := by
  obtain ⟨B, F0, F, ρ, S, p⟩ := h
  refine tABs.mk S p fun ds F1 H1 vs _ st rs p => ?_
  obtain ⟨z, ez, q⟩ := p.ofO
  exact hs F1 H1 vs ds z Q rs ez fun p xs hp r => q F1 _ _ (st.trans (Stp.lay hp)) ⟨p, xs, rfl, st.keep.free hp, fun z => (S.stp st).trk p z hp, upd_same, r.stp (Stp.lay hp)⟩
theorem pf_callBN {id : String} {x : Str} {p : Pos} {r : List V → Hp → VK → Prop} {s : List PyData → Option (List PyData)} {e : Expr} {es : List Expr} {g : Ro → Res (List PyData)} (hc : CallR X (.builtin id) r) (hs : SemCN K r s) (hg : Gl X x) (hm : X.mg x = none) (hv : bootBuiltins x = some (.builtin id)) (ha : PA X (e :: es) (tABs K mg W g))
    (hn : x ≠ "__name__" := by decide) (hdb : (x == ("__debug__" : Str)) = false := by decide) (he : starEach (e :: es) X.env = (false, eval e X.env) :: starEach es X.env := by rfl) (hpl : (backTo pos (starEach es X.env)).any (·.1) = false := by rfl) :
    PE X (.Call (.Name x p) (e :: es) [] pos) (tN K mg W (e1 s g)) := (pe_callB hc hg hm hv ha hn hdb he hpl).imp fun _ _ _ h => tCBN_of hs h
theorem pf_callTyN {T : String} {x : Str} {p : Pos} {r : List V → Hp → VK → Prop} {s : List PyData → Option (List PyData)} {e : Expr} {es : List Expr} {g : Ro → Res (List PyData)} (hc : CallR X (.type T) r) (hs : SemCN K r s) (hg : Gl X x) (hm : X.mg x = none) (hv : bootBuiltins x = some (.type T)) (ha : PA X (e :: es) (tABs K mg W g))
    (hn : x ≠ "__name__" := by decide) (hdb : (x == ("__debug__" : Str)) = false := by decide) (he : starEach (e :: es) X.env = (false, eval e X.env) :: starEach es X.env := by rfl) (hpl : (backTo pos (starEach es X.env)).any (·.1) = false := by rfl) :
    PE X (.Call (.Name x p) (e :: es) [] pos) (tN K mg W (e1 s g)) := (pe_callTy hc hg hm hv ha hn hdb he hpl).imp fun _ _ _ h => tCBN_of hs h
def lenD : List PyData → Option PyData
  | [.list xs] => some (.int xs.length)
  | [.tuple xs] => some (.int xs.length)
  | [.dict ps] => some (.int ps.length)
  | _ => none
theorem sem_len : SemC K (fun xs H Q => ∃ x n, xs = [x] ∧ LenV K x H n ∧ Q (.int n) H) lenD := by
  intro F H vs ds z Q rs hs h
  unfold lenD at hs
  split at hs
  · cases hs
    obtain ⟨v, rfl, rv⟩ := rs.one
    obtain ⟨a, xs, rfl, ha, r⟩ := rv.list
    refine ⟨_, xs.length, rfl, .inl ⟨xs, SqL.of ha, rfl⟩, ?_⟩
    rw [r.length]
    exact h F H _ Stp.refl (.int _)
  · cases hs
    obtain ⟨v, rfl, rv⟩ := rs.one
    obtain ⟨a, xs, rfl, ha, r⟩ := rv.tuple
    refine ⟨_, xs.length, rfl, .inr ⟨xs, ha, rfl⟩, ?_⟩
    rw [r.length]
    exact h F H _ Stp.refl (.int _)
  · cases hs
    obtain ⟨v, rfl, rv⟩ := rs.one
    have key : ∀ {a : Addr} {ns : List Int}, SqL K H a (ns.map V.int) → Q (.int (ns.map fun n => (PyData.none, PyData.int n)).length) H → ∃ x n, [V.ref a] = [x] ∧ LenV K x H n ∧ Q (.int n) H := fun {a ns} sq q =>
      ⟨_, ns.length, rfl, .inl ⟨_, sq, by rw [List.length_map]⟩, by rw [List.length_map] at q; exact q⟩
    cases rv with
    | rp rv =>
      cases rv with
      | scr f q => exact key (.inl (.inr ⟨_, q⟩)) (h F H _ Stp.refl (.int _))
      | scrK q => exact key (q.sq H) (h F H _ Stp.refl (.int _))
  · cases hs
def absD : List PyData → Option PyData
  | [.int i] => some (.int (if i < 0 then -i else i))
  | _ => none
theorem sem_abs : SemC K (fun xs H Q => ∃ i, xs = [.int i] ∧ Q (.int (if i < 0 then -i else i)) H) absD := by
  intro F H vs ds z Q rs hs h
  unfold absD at hs
  split at hs
  · cases hs
    obtain ⟨v, rfl, rv⟩ := rs.one
    exact ⟨_, by rw [rv.int'], h F H _ Stp.refl (.int _)⟩
  · cases hs
def max2D : List PyData → Option PyData
  | [.int i, .int j] => some (.int (if j > i then j else i))
  | _ => none
def min2D : List PyData → Option PyData
  | [.int i, .int j] => some (.int (if j < i then j else i))
  | _ => none
theorem sem_max2 : SemC K (fun xs H Q => ∃ i j, xs = [.int i, .int j] ∧ Q (.int (if j > i then j else i)) H) max2D := by
  intro F H vs ds z Q rs hs h
  unfold max2D at hs
  split at hs
  · cases hs
    obtain ⟨v, w, rfl, rv, rw'⟩ := rs.two
    exact ⟨_, _, by rw [rv.int', rw'.int'], h F H _ Stp.refl (.int _)⟩
  · cases hs
theorem sem_min2 : SemC K (fun xs H Q => ∃ i j, xs = [.int i, .int j] ∧ Q (.int (if j < i then j else i)) H) min2D := by
  intro F H vs ds z Q rs hs h
  unfold min2D at hs
  split at hs
  · cases hs
    obtain ⟨v, w, rfl, rv, rw'⟩ := rs.two
    exact ⟨_, _, by rw [rv.int', rw'.int'], h F H _ Stp.refl (.int _)⟩
  · cases hs
def intD : List PyData → Option PyData
  | [.int i] => some (.int i)
  | [.bool b] => some (.int (if b then 1 else 0))
  | _ => none
theorem sem_int : SemC K (fun xs H Q => (∃ i, xs = [.int i] ∧ Q (.int i) H) ∨ ∃ k, xs = [.bl k] ∧ Q (.int (if k then 1 else 0)) H) intD := by
  intro F H vs ds z Q rs hs h
  unfold intD at hs
  split at hs
  · cases hs
    obtain ⟨v, rfl, rv⟩ := rs.one
    exact .inl ⟨_, by rw [rv.int'], h F H _ Stp.refl (.int _)⟩
  · cases hs
    obtain ⟨v, rfl, rv⟩ := rs.one
    exact .inr ⟨_, by rw [rv.bool'], h F H _ Stp.refl (.int _)⟩
  · cases hs
/-- a list of ints, of bools, as plain lists -/
def intsO : List PyData → Option (List Int)
  | [] => some []
  | .int i :: ds => (intsO ds).map (i :: ·)
  | _ => none
def boolsO : List PyData → Option (List Bool)
  | [] => some []
  | .bool i :: ds => (boolsO ds).map (i :: ·)
  | _ => none
theorem intsO_eq : ∀ {ds : List PyData} {ns : List Int}, intsO ds = some ns → ds = ns.map PyData.int
  | [], ns, h => by cases h; rfl
  | .int i :: ds, ns, h => by
    unfold intsO at h
    cases e : intsO ds with
    | none => rw [e] at h; cases h
    | some ms => rw [e] at h; cases h; rw [intsO_eq e]; rfl
  | .none :: _, _, h => by cases h
  | .bool _ :: _, _, h => by cases h
  | .str _ :: _, _, h => by cases h
  | .list _ :: _, _, h => by cases h
  | .tuple _ :: _, _, h => by cases h
  | .dict _ :: _, _, h => by cases h
@[simp] theorem intsO_map (ns : List Int) : intsO (ns.map PyData.int) = some ns := by
  induction ns with
  | nil => rfl
  | cons n ns ih => rw [List.map_cons, intsO, ih]; rfl
theorem boolsO_eq : ∀ {ds : List PyData} {ns : List Bool}, boolsO ds = some ns → ds = ns.map PyData.bool
  | [], ns, h => by cases h; rfl
  | .bool i :: ds, ns, h => by
    unfold boolsO at h
    cases e : boolsO ds with
    | none => rw [e] at h; cases h
    | some ms => rw [e] at h; cases h; rw [boolsO_eq e]; rfl
  | .none :: _, _, h => by cases h
  | .int _ :: _, _, h => by cases h
  | .str _ :: _, _, h => by cases h
  | .list _ :: _, _, h => by cases h
  | .tuple _ :: _, _, h => by cases h
  | .dict _ :: _, _, h => by cases h
@[simp] theorem boolsO_map (ns : List Bool) : boolsO (ns.map PyData.bool) = some ns := by
  induction ns with
  | nil => rfl
  | cons n ns ih => rw [List.map_cons, boolsO, ih]; rfl
def sumD : List PyData → Option PyData
  | [.list ds] => (intsO ds).map fun ns => .int ns.sum
  | _ => none
theorem ints_of {F : Rg} {H : Hp} {v : V} {ds : List PyData} {ns : List Int} (rv : RpB K F H v (.list ds)) (e : intsO ds = some ns) : ∃ a, v = .ref a ∧ H a = some (.lst (ns.map V.int)) := by
  obtain ⟨a, xs, rfl, ha, r⟩ := rv.list
  rw [intsO_eq e] at r
  rw [r.ints] at ha
  exact ⟨a, rfl, ha⟩
theorem sem_sum : SemC K (rSum K) sumD := by
  intro F H vs ds z Q rs hs h
  unfold sumD at hs
  split at hs
  · rename_i ds
    cases e : intsO ds with
    | none => rw [e] at hs; cases hs
    | some ns =>
      rw [e] at hs
      cases hs
      obtain ⟨v, rfl, rv⟩ := rs.one
      obtain ⟨a, rfl, ha⟩ := ints_of rv e
      exact ⟨a, ns, rfl, SqL.of ha, h F H _ Stp.refl (.int _)⟩
  · cases hs
def maxL : List Int → Option Int
  | [] => none
  | n :: ns => some (ns.foldl max n)
def minL : List Int → Option Int
  | [] => none
  | n :: ns => some (ns.foldl min n)
theorem foldl_max_ge : ∀ (ns : List Int) (a : Int), a ≤ ns.foldl max a ∧ ∀ y ∈ ns, y ≤ ns.foldl max a
  | [], a => ⟨Int.le_refl a, fun _ h => by cases h⟩
  | n :: ns, a => by
    obtain ⟨h1, h2⟩ := foldl_max_ge ns (max a n)
    refine ⟨by rw [List.foldl_cons]; omega, fun y hy => ?_⟩
    rw [List.foldl_cons]
    rcases List.mem_cons.mp hy with rfl | hy
    · omega
    · exact h2 y hy
theorem foldl_max_mem : ∀ (ns : List Int) (a : Int), ns.foldl max a = a ∨ ns.foldl max a ∈ ns
  | [], a => .inl rfl
  | n :: ns, a => by
    rw [List.foldl_cons]
    rcases foldl_max_mem ns (max a n) with h | h
    · rw [h]
      by_cases c : a ≤ n
      · right; rw [Int.max_eq_right c]; exact List.mem_cons_self ..
      · left; exact Int.max_eq_left (by omega)
    · exact .inr (List.mem_cons_of_mem _ h)
theorem foldl_min_le : ∀ (ns : List Int) (a : Int), ns.foldl min a ≤ a ∧ ∀ y ∈ ns, ns.foldl min a ≤ y
  | [], a => ⟨Int.le_refl a, fun _ h => by cases h⟩
  | n :: ns, a => by
    obtain ⟨h1, h2⟩ := foldl_min_le ns (min a n)
    refine ⟨by rw [List.foldl_cons]; omega, fun y hy => ?_⟩
    rw [List.foldl_cons]
    rcases List.mem_cons.mp hy with rfl | hy
    · omega
    · exact h2 y hy
theorem foldl_min_mem : ∀ (ns : List Int) (a : Int), ns.foldl min a = a ∨ ns.foldl min a ∈ ns
  | [], a => .inl rfl
  | n :: ns, a => by
    rw [List.foldl_cons]
    rcases foldl_min_mem ns (min a n) with h | h
    · rw [h]
      by_cases c : a ≤ n
      · left; exact Int.min_eq_left c
      · right; rw [Int.min_eq_right (by omega)]; exact List.mem_cons_self ..
    · exact .inr (List.mem_cons_of_mem _ h)
theorem maxL_spec {ns : List Int} {m : Int} (h : maxL ns = some m) : m ∈ ns ∧ ∀ y ∈ ns, y ≤ m := by
  cases ns with
  | nil => cases h
  | cons n ns =>
    cases h
    refine ⟨(foldl_max_mem ns n).elim (fun e => by rw [e]; exact List.mem_cons_self ..) (List.mem_cons_of_mem _), fun y hy => ?_⟩
    rcases List.mem_cons.mp hy with rfl | hy
    · exact (foldl_max_ge ns y).1
    · exact (foldl_max_ge ns n).2 y hy
theorem minL_spec {ns : List Int} {m : Int} (h : minL ns = some m) : m ∈ ns ∧ ∀ y ∈ ns, m ≤ y := by
  cases ns with
  | nil => cases h
  | cons n ns =>
    cases h
    refine ⟨(foldl_min_mem ns n).elim (fun e => by rw [e]; exact List.mem_cons_self ..) (List.mem_cons_of_mem _), fun y hy => ?_⟩
    rcases List.mem_cons.mp hy with rfl | hy
    · exact (foldl_min_le ns y).1
    · exact (foldl_min_le ns n).2 y hy
def maxD : List PyData → Option PyData
  | [.list ds] => (intsO ds).bind fun ns => (maxL ns).map PyData.int
  | _ => none
def minD : List PyData → Option PyData
  | [.list ds] => (intsO ds).bind fun ns => (minL ns).map PyData.int
  | _ => none
theorem sem_max : SemC K (rMax K) maxD := by
  intro F H vs ds z Q rs hs h
  unfold maxD at hs
  split at hs
  · rename_i ds
    cases e : intsO ds with
    | none => rw [e] at hs; cases hs
    | some ns =>
      rw [e] at hs
      have hs : (maxL ns).map PyData.int = some z := hs
      cases em : maxL ns with
      | none => rw [em] at hs; cases hs
      | some m =>
        rw [em] at hs
        cases hs
        obtain ⟨s1, s2⟩ := maxL_spec em
        obtain ⟨v, rfl, rv⟩ := rs.one
        obtain ⟨a, rfl, ha⟩ := ints_of rv e
        refine ⟨a, ns, rfl, SqL.of ha, List.length_pos_of_mem s1, fun m' h1 h2 => ?_⟩
        have : m' = m := by have := s2 m' h1; have := h2 m s1; omega
        rw [this]
        exact h F H _ Stp.refl (.int _)
  · cases hs
theorem sem_min : SemC K (rMin K) minD := by
  intro F H vs ds z Q rs hs h
  unfold minD at hs
  split at hs
  · rename_i ds
    cases e : intsO ds with
    | none => rw [e] at hs; cases hs
    | some ns =>
      rw [e] at hs
      have hs : (minL ns).map PyData.int = some z := hs
      cases em : minL ns with
      | none => rw [em] at hs; cases hs
      | some m =>
        rw [em] at hs
        cases hs
        obtain ⟨s1, s2⟩ := minL_spec em
        obtain ⟨v, rfl, rv⟩ := rs.one
        obtain ⟨a, rfl, ha⟩ := ints_of rv e
        refine ⟨a, ns, rfl, SqL.of ha, List.length_pos_of_mem s1, fun m' h1 h2 => ?_⟩
        have : m' = m := by have := s2 m' h1; have := h2 m s1; omega
        rw [this]
        exact h F H _ Stp.refl (.int _)
  · cases hs
def allD : List PyData → Option PyData
  | [.list ds] => (boolsO ds).map fun bs => .bool (bs.all id)
  | _ => none
def anyD : List PyData → Option PyData
  | [.list ds] => (boolsO ds).map fun bs => .bool (bs.any id)
  | _ => none
theorem bools_of {F : Rg} {H : Hp} {v : V} {ds : List PyData} {ns : List Bool} (rv : RpB K F H v (.list ds)) (e : boolsO ds = some ns) : ∃ a, v = .ref a ∧ H a = some (.lst (ns.map V.bl)) := by
  obtain ⟨a, xs, rfl, ha, r⟩ := rv.list
  rw [boolsO_eq e] at r
  rw [r.bools] at ha
  exact ⟨a, rfl, ha⟩
theorem sem_all : SemC K (rAll K) allD := by
  intro F H vs ds z Q rs hs h
  unfold allD at hs
  split at hs
  · rename_i ds
    cases e : boolsO ds with
    | none => rw [e] at hs; cases hs
    | some ns =>
      rw [e] at hs
      cases hs
      obtain ⟨v, rfl, rv⟩ := rs.one
      obtain ⟨a, rfl, ha⟩ := bools_of rv e
      exact ⟨a, ns, rfl, SqL.of ha, h F H _ Stp.refl (.bl _)⟩
  · cases hs
theorem sem_any : SemC K (rAny K) anyD := by
  intro F H vs ds z Q rs hs h
  unfold anyD at hs
  split at hs
  · rename_i ds
    cases e : boolsO ds with
    | none => rw [e] at hs; cases hs
    | some ns =>
      rw [e] at hs
      cases hs
      obtain ⟨v, rfl, rv⟩ := rs.one
      obtain ⟨a, rfl, ha⟩ := bools_of rv e
      exact ⟨a, ns, rfl, SqL.of ha, h F H _ Stp.refl (.bl _)⟩
  · cases hs
/-- list(xs) -/
def listN : List PyData → Option (List PyData)
  | [.list xs] => some xs
  | [.tuple xs] => some xs
  | _ => none
theorem sem_list : SemCN K (fun xs H Q => ∃ p ys, xs = [.ref p] ∧ (SqL K H p ys ∨ SqT K H p ys) ∧ ∀ l, H l = none → Q (.ref l) (upd H l (.lst ys))) listN := by
  intro F H vs ds z Q rs hs h
  unfold listN at hs
  split at hs
  · cases hs
    obtain ⟨v, rfl, rv⟩ := rs.one
    obtain ⟨a, xs, rfl, ha, r⟩ := rv.list
    exact ⟨a, xs, rfl, .inl (SqL.of ha), fun p hp => h p xs hp r⟩
  · cases hs
    obtain ⟨v, rfl, rv⟩ := rs.one
    obtain ⟨a, xs, rfl, ha, r⟩ := rv.tuple
    exact ⟨a, xs, rfl, .inr ha, fun p hp => h p xs hp r⟩
  · cases hs
/-- tuple(xs) -/
def tupleD : List PyData → Option PyData
  | [.list xs] => some (.tuple xs)
  | _ => none
theorem sem_tuple : SemC K (fun xs H Q => ∃ p ys, xs = [.ref p] ∧ ((SqL K H p ys ∧ ∀ l, H l = none → Q (.ref l) (upd H l (.tup ys))) ∨ (SqT K H p ys ∧ Q (.ref p) H))) tupleD := by
  intro F H vs ds z Q rs hs h
  unfold tupleD at hs
  split at hs
  · cases hs
    obtain ⟨v, rfl, rv⟩ := rs.one
    obtain ⟨a, xs, rfl, ha, r⟩ := rv.list
    exact ⟨a, xs, rfl, .inl ⟨SqL.of ha, fun p hp => h _ _ _ (Stp.add hp) (Rp.newT hp r)⟩⟩
  · cases hs
/-- sorted(xs), ints -/
def sortI (ns : List Int) : List Int := ns.mergeSort fun a b => decide (a ≤ b)
def sortedN : List PyData → Option (List PyData)
  | [.list ds] => (intsO ds).map fun ns => (sortI ns).map PyData.int
  | _ => none
theorem sorted_uniq : ∀ {l m : List Int}, l.Perm m → l.Pairwise (· ≤ ·) → m.Pairwise (· ≤ ·) → l = m
  | [], m, p, _, _ => (List.Perm.eq_nil p.symm).symm ▸ rfl
  | a :: l, m, p, h1, h2 => by
    cases m with
    | nil => exact absurd p.length_eq (by simp)
    | cons b m =>
      have ab : a = b := by
        have hb : b ∈ a :: l := p.mem_iff.mpr (List.mem_cons_self ..)
        have ha : a ∈ b :: m := p.mem_iff.mp (List.mem_cons_self ..)
        have i1 : a ≤ b := by
          rcases List.mem_cons.mp hb with e | hb
          · omega
          · exact (List.pairwise_cons.mp h1).1 b hb
        have i2 : b ≤ a := by
          rcases List.mem_cons.mp ha with e | ha
          · omega
          · exact (List.pairwise_cons.mp h2).1 a ha
        omega
      subst ab
      rw [sorted_uniq (List.Perm.cons_inv p) (List.pairwise_cons.mp h1).2 (List.pairwise_cons.mp h2).2]
theorem sortI_perm (ns : List Int) : (sortI ns).Perm ns := List.mergeSort_perm _ _
theorem sortI_sorted (ns : List Int) : (sortI ns).Pairwise (· ≤ ·) := by
  have h := List.pairwise_mergeSort (le := fun a b : Int => decide (a ≤ b)) (by intro a b c h1 h2; simp only [decide_eq_true_eq] at h1 h2 ⊢; omega) (by intro a b; simp only [Bool.or_eq_true, decide_eq_true_eq]; omega) ns
  exact h.imp fun {a b} h => of_decide_eq_true h
theorem sem_sorted : SemCN K (rSortedI K) sortedN := by
  intro F H vs ds z Q rs hs h
  unfold sortedN at hs
  split at hs
  · rename_i ds
    cases e : intsO ds with
    | none => rw [e] at hs; cases hs
    | some ns =>
      rw [e] at hs
      cases hs
      obtain ⟨v, rfl, rv⟩ := rs.one
      obtain ⟨a, rfl, ha⟩ := ints_of rv e
      refine ⟨a, ns, rfl, SqL.of ha, fun ns' p hp ho hn => ?_⟩
      rw [sorted_uniq (hp.trans (sortI_perm ns).symm) ho (sortI_sorted ns)]
      exact h p _ hn Rps.of_ints
  · cases hs
end
end Pf
/-! Pf4: calls of defs; what is walked; targets; comprehensions. -/
namespace Pf
open PySem PySem.Spec PyProof.Rows L2

abbrev W0 : WX := fun _ _ _ _ => False

/-! ### defs -/
def spOf (K : PySem.W.Frag) (mg : Str → Option Value) (n : Nat) (m : List PyData → Res PyData) : Sp := fun vs H Q E =>
  vs.length = n ∧ ∃ (F : Rg) (ds : List PyData), (∀ a, F a → H a ≠ none) ∧ Rps K F H vs ds ∧ match m ds with
    | .ok d => ∀ F' H' v, Stp F H F' H' → Rp K F' H' v d → Q v H'
    | .exc c k => ∀ (H' : Hp) (dx C : Addr), Same H H' → H' dx = some (.xd [("at", .int k)]) → mg c = some (.ref C) → E (.ref C) (some dx) H'
    | .bad => False
section
variable {X : Cx} {W : WX} {pos : Pos}
theorem pf_call {x : Str} {p : Pos} {k n : Nat} {f : Addr} {fd : FuncData} {ps : List Str} {m : List PyData → Res PyData} {e : Expr} {es : List Expr} {g : Ro → Res (List PyData)} (Fo : FnOk X.prog X.w X.K X.mg X.base (L2.CX X.prog X.w) k f fd ps (spOf X.K X.mg n m)) (hr : Room k X.A) (hg : Gl X x) (hm : X.mg x = some (.ref f)) (hk : PySem.W.keepIn X.K (.ref f) = true) (hb : Binds X.K fd ps [])
    (tk : Takes X W) (ha : PA X (e :: es) (tAs X.K X.mg W g)) (hl : ∀ ρ ds, g ρ = .ok ds → ds.length = n) (hdb : (x == ("__debug__" : Str)) = false := by decide) (he : starEach (e :: es) X.env = (false, eval e X.env) :: starEach es X.env := by rfl) (hpl : (backTo pos (starEach es X.env)).any (·.1) = false := by rfl) :
    PE X (.Call (.Name x p) (e :: es) [] pos) (tF X.K X.mg W (eCall m g)) :=
  (pe_callS (E := WE W) Fo hr hg hm hk hb (fun σ => passAt tk σ) ha hdb he hpl).imp fun σ H Q ⟨B, F0, F, ρ, S, p⟩ => by
    refine tAs.mk S p fun ds F1 H1 vs e st rs q => ?_
    refine ⟨by rw [rs.length]; exact hl ρ ds e, F1, ds, (S.stp st).trk, rs, ?_⟩
    cases em : m ds with
    | ok d => rw [em] at q; exact fun F' H' v st2 r => q F' H' v (st.trans st2) r
    | exc c k => rw [em] at q; exact fun H' dx C s h1 h2 => q H' dx C (st.keep.trans s) h1 h2
    | bad => rw [em] at q; exact q
end

/-! ### what is walked -/
structure Kept (Z : Bool) (F1 : Rg) (H1 : Hp) (F : Rg) (H : Hp) : Prop where
  sub : ∀ a, F1 a → F a
  keep : ∀ a, (Z = true ∨ F1 a) → ∀ o, H1 a = some o → H a = some o
theorem Kept.fk {Z : Bool} {F1 F : Rg} {H1 H : Hp} (k : Kept Z F1 H1 F H) : FK F1 H1 F H := ⟨k.sub, fun a h => k.keep a (.inr h)⟩
structure GoodIt (K : PySem.W.Frag) (J : It) (Z : Bool) (F1 : Rg) (H1 : Hp) (ds : List PyData) : Prop where
  len : ds.length ≤ 16777216
  go : ∀ (i : Nat) (d : PyData) (F : Rg) (H : Hp), ds[i]? = some d → Kept Z F1 H1 F H → J.go i H ∧ ∀ x H', J.yld i H x H' → ∃ F', Stp F H F' H' ∧ Rp K F' H' x d
  stop : ∀ (F : Rg) (H : Hp), Kept Z F1 H1 F H → J.stop ds.length H
def tI (K : PySem.W.Frag) (mg : Str → Option Value) (W : WX) (Z : Bool) (fi : Ro → Res (List PyData)) : TI := fun σ H R =>
  ∃ (B : Hp) (F0 F : Rg) (ρ : Ro), Ste K B F0 F H σ ρ ∧ PostE mg W σ H (fun ds => ∀ J F' H', Stp F H F' H' → GoodIt K J Z F' H' ds → R J H') (fi ρ)
theorem _root_.L2.PI.imp {X : Cx} {tg e : Expr} {t t' : TI} (h : PI X tg e t) (i : ∀ σ H R, t' σ H R → t σ H R) : PI X tg e t' := ⟨fun pins s σ H Q I q => h.run pins s σ H Q I (i σ H Q q)⟩
theorem _root_.L2.PI.or {X : Cx} {tg e : Expr} {t t' : TI} (h : PI X tg e t) (h' : PI X tg e t') : PI X tg e (fun σ H R => t σ H R ∨ t' σ H R) := ⟨fun pins s σ H Q I q => q.elim (h.run pins s σ H Q I) (h'.run pins s σ H Q I)⟩
section
variable {X : Cx} {K : PySem.W.Frag} {mg : Str → Option Value} {W : WX} {Z : Bool} {tg : Expr} {pos : Pos}
def itL : PyData → Option (List PyData)
  | .list xs => some xs
  | .tuple xs => some xs
  | _ => none
theorem good_list {F1 : Rg} {H1 : Hp} {a : Addr} {xs : List V} {ds : List PyData} (hZ : Z = true ∨ F1 a) (ha : H1 a = some (.lst xs)) (r : Rps K F1 H1 xs ds) (hl : ds.length ≤ 16777216) : GoodIt K (Itl K a) Z F1 H1 ds where
  len := hl
  go := fun i d F H e k => by
    obtain ⟨v, h1, h2⟩ := r.get e
    have ha' := k.keep a hZ _ ha
    refine ⟨⟨xs, v, SqL.of ha', h1⟩, fun x H' y => ?_⟩
    obtain ⟨rfl, y⟩ := y
    have := y xs (SqL.of ha')
    rw [h1] at this
    cases this
    exact ⟨F, Stp.refl, h2.fk k.fk⟩
  stop := fun F H k => ⟨xs, SqL.of (k.keep a hZ _ ha), by rw [r.length]; exact Nat.le_refl _⟩
theorem SqT.kept {F1 F : Rg} {H1 H : Hp} {a : Addr} {xs : List V} {ds : List PyData} (h : Rp K F1 H1 (.ref a) (.tuple ds)) (k : FK F1 H1 F H) : Rp K F H (.ref a) (.tuple ds) := h.fk k
theorem good_tup {F1 : Rg} {H1 : Hp} {a : Addr} {ds : List PyData} (h : Rp K F1 H1 (.ref a) (.tuple ds)) (hl : ds.length ≤ 16777216) : GoodIt K (Itt K a) Z F1 H1 ds := by
  have key : ∃ xs, (∀ F H, FK F1 H1 F H → SqT K H a xs) ∧ Rps K F1 H1 xs ds := by
    cases h with
    | tup f q r => exact ⟨_, fun F H k => SqT.of (k.keep a f _ q), r⟩
    | tupK q r => exact ⟨_, fun F H k => q.sq H, r⟩
  obtain ⟨xs, hq, r⟩ := key
  refine ⟨hl, fun i d F H e k => ?_, fun F H k => ⟨xs, hq F H k.fk, by rw [r.length]; exact Nat.le_refl _⟩⟩
  obtain ⟨v, h1, h2⟩ := r.get e
  refine ⟨⟨xs, v, hq F H k.fk, h1⟩, fun x H' y => ?_⟩
  obtain ⟨rfl, y⟩ := y
  have := y xs (hq F _ k.fk)
  rw [h1] at this
  cases this
  exact ⟨F, Stp.refl, h2.fk k.fk⟩
/-- over a list or tuple in the region -/
theorem pf_iF {l : Expr} {f : Ro → Res PyData} (hK : X.K = K) (h : PE X l (tF K mg W f)) : PI X tg l (tI K mg W Z (e1 itL f)) :=
  ((pi_list h.len).or (pi_tup h.len)).imp fun σ H R ⟨B, F0, F, ρ, S, p⟩ => by
    unfold e1 at p
    subst hK
    cases e : f ρ with
    | ok d =>
      rw [e] at p
      cases d with
      | list ds =>
        refine .inl ⟨B, F0, F, ρ, S, ?_⟩
        rw [e]
        have p : ∀ J F' H', Stp F H F' H' → GoodIt X.K J Z F' H' ds → R J H' := p
        intro F' H' v st r hlen
        cases r with
        | lst f q r => exact ⟨_, rfl, ⟨_, SqL.of q⟩, p _ _ _ st (good_list (.inr f) q r (by rw [← r.length]; have := (hlen _ rfl).1 _ (SqL.of q); rw [sizeLine_eq] at this; exact this))⟩
      | tuple ds =>
        refine .inr ⟨B, F0, F, ρ, S, ?_⟩
        rw [e]
        have p : ∀ J F' H', Stp F H F' H' → GoodIt X.K J Z F' H' ds → R J H' := p
        intro F' H' v st r hlen
        obtain ⟨a, xs, rfl, hq, rr⟩ := (RpB.rp r).tuple
        exact ⟨a, rfl, ⟨xs, hq⟩, p _ _ _ st (good_tup r (by rw [← rr.length]; have := (hlen _ rfl).2 _ hq; rw [sizeLine_eq] at this; exact this))⟩
      | _ => exact p.elim
    | exc c k => rw [e] at p; exact .inl ⟨B, F0, F, ρ, S, by rw [e]; exact p⟩
    | bad => rw [e] at p; exact p.elim
/-- .. or one's own list, where nothing is changed meanwhile -/
theorem pf_iB {l : Expr} {f : Ro → Res PyData} (hK : X.K = K) (h : PE X l (tB K mg W f)) : PI X tg l (tI K mg W true (e1 itL f)) :=
  ((pi_list h.len).or (pi_tup h.len)).imp fun σ H R ⟨B, F0, F, ρ, S, p⟩ => by
    unfold e1 at p
    subst hK
    cases e : f ρ with
    | ok d =>
      rw [e] at p
      cases d with
      | list ds =>
        refine .inl ⟨B, F0, F, ρ, S, ?_⟩
        rw [e]
        have p : ∀ J F' H', Stp F H F' H' → GoodIt X.K J true F' H' ds → R J H' := p
        intro F' H' v st r hlen
        obtain ⟨a, xs, rfl, ha, rr⟩ := r.list
        exact ⟨a, rfl, ⟨xs, SqL.of ha⟩, p _ _ _ st (good_list (.inl rfl) ha rr (by rw [← rr.length]; have := (hlen _ rfl).1 _ (SqL.of ha); rw [sizeLine_eq] at this; exact this))⟩
      | tuple ds =>
        refine .inr ⟨B, F0, F, ρ, S, ?_⟩
        rw [e]
        have p : ∀ J F' H', Stp F H F' H' → GoodIt X.K J true F' H' ds → R J H' := p
        intro F' H' v st r hlen
        obtain ⟨a, xs, rfl, hq, rr⟩ := r.tuple
        cases r with
        | rp r => exact ⟨a, rfl, ⟨xs, hq⟩, p _ _ _ st (good_tup r (by rw [← rr.length]; have := (hlen _ rfl).2 _ hq; rw [sizeLine_eq] at this; exact this))⟩
      | _ => exact p.elim
    | exc c k => rw [e] at p; exact .inl ⟨B, F0, F, ρ, S, by rw [e]; exact p⟩
    | bad => rw [e] at p; exact p.elim
/-- over a range -/
def rngL (lo : Int) (n : Nat) : List PyData := (List.range n).map fun i => .int (lo + (i : Nat))
theorem rngL_length (lo : Int) (n : Nat) : (rngL lo n).length = n := by unfold rngL; simp
theorem rngL_get {lo : Int} {n i : Nat} {d : PyData} (h : (rngL lo n)[i]? = some d) : i < n ∧ d = .int (lo + i) := by
  unfold rngL at h
  rw [List.getElem?_map] at h
  by_cases hi : i < n
  · rw [List.getElem?_range hi] at h; cases h; exact ⟨hi, rfl⟩
  · rw [List.getElem?_eq_none (by simpa using hi)] at h; cases h
theorem good_range {F1 : Rg} {H1 : Hp} {lo : Int} {n : Nat} (hl : n ≤ 16777216) : GoodIt K (Itr lo n) Z F1 H1 (rngL lo n) where
  len := by rw [rngL_length]; exact hl
  go := fun i d F H e k => by
    obtain ⟨h1, rfl⟩ := rngL_get e
    refine ⟨h1, fun x H' y => ?_⟩
    obtain ⟨rfl, rfl⟩ := y
    exact ⟨F, Stp.refl, .int _⟩
  stop := fun F H k => by rw [rngL_length]; exact Nat.le_refl _
def rg1 : List PyData → Option (List PyData)
  | [.int j] => if -4611686018427387904 ≤ j ∧ j ≤ 16777216 then some (rngL 0 j.toNat) else none
  | _ => none
def rg2 : List PyData → Option (List PyData)
  | [.int i, .int j] => if -4611686018427387904 ≤ i ∧ i < 4611686018427387904 ∧ -4611686018427387904 ≤ j ∧ j < 4611686018427387904 ∧ j - i ≤ 16777216 then some (rngL i (j - i).toNat) else none
  | _ => none
theorem pf_range1 {a : Expr} {p : Pos} {g : Ro → Res (List PyData)} (hg : Gl X "range") (hm : X.mg "range" = none) (ha : PA X [a] (tABs K mg W g)) (hs : starEach [a] X.env = [(false, eval a X.env)] := by rfl) : PI X tg (.Call (.Name "range" p) [a] [] pos) (tI K mg W Z (e1 rg1 g)) :=
  (pi_range1 hg hm ha hs).imp fun σ H R ⟨B, F0, F, ρ, S, p⟩ => by
    refine tABs.mk S p fun ds F1 H1 vs _ st rs p => ?_
    obtain ⟨z, ez, q⟩ := p.ofO
    unfold rg1 at ez
    split at ez
    · split at ez
      · rename_i hl
        cases ez
        obtain ⟨v, rfl, rv⟩ := rs.one
        exact ⟨_, by rw [rv.int'], by omega, by omega, q _ _ _ st (good_range (by omega))⟩
      · cases ez
    · cases ez
theorem pf_range2 {a b : Expr} {p : Pos} {g : Ro → Res (List PyData)} (hg : Gl X "range") (hm : X.mg "range" = none) (ha : PA X [a, b] (tABs K mg W g)) (hs : starEach [a, b] X.env = [(false, eval a X.env), (false, eval b X.env)] := by rfl) (hs2 : starEach [b] X.env = [(false, eval b X.env)] := by rfl) : PI X tg (.Call (.Name "range" p) [a, b] [] pos) (tI K mg W Z (e1 rg2 g)) :=
  (pi_range2 hg hm ha hs hs2).imp fun σ H R ⟨B, F0, F, ρ, S, p⟩ => by
    refine tABs.mk S p fun ds F1 H1 vs _ st rs p => ?_
    obtain ⟨z, ez, q⟩ := p.ofO
    unfold rg2 at ez
    split at ez
    · split at ez
      · rename_i hl
        cases ez
        obtain ⟨v, w, rfl, rv, rw'⟩ := rs.two
        exact ⟨_, _, by rw [rv.int', rw'.int'], ⟨by omega, by omega, by omega, by omega⟩, q _ _ _ st (good_range (by omega))⟩
      · cases ez
    · cases ez
/-- enumerate(list) -/
def enumL : List PyData → Option (List PyData)
  | [.list xs] => some (xs.zipIdx.map fun p => .tuple [.int (p.2 : Nat), p.1])
  | _ => none
theorem good_enum {F1 : Rg} {H1 : Hp} {a : Addr} {xs : List V} {ds : List PyData} (hZ : Z = true ∨ F1 a) (ha : H1 a = some (.lst xs)) (r : Rps K F1 H1 xs ds) (hl : ds.length ≤ 16777216) : GoodIt K (Ite K a) Z F1 H1 (ds.zipIdx.map fun p => .tuple [.int (p.2 : Nat), p.1]) where
  len := by simpa using hl
  go := fun i d F H e k => by
    rw [List.getElem?_map, List.getElem?_zipIdx] at e
    cases e2 : ds[i]? with
    | none => rw [e2] at e; cases e
    | some d' =>
      rw [e2] at e
      obtain ⟨v, h1, h2⟩ := r.get e2
      have ha' := k.keep a hZ _ ha
      refine ⟨⟨xs, v, SqL.of ha', h1⟩, fun x H' y => ?_⟩
      obtain ⟨T, x', rfl, hT, rfl, y⟩ := y
      have := y xs (SqL.of ha')
      rw [h1] at this
      cases this
      refine ⟨_, Stp.add hT, ?_⟩
      have ed : d = .tuple [.int (i : Nat), d'] := by simpa using e.symm
      rw [ed]
      exact Rp.newT hT (.cons (.int _) (.cons (h2.fk k.fk) .nil))
  stop := fun F H k => ⟨xs, SqL.of (k.keep a hZ _ ha), by rw [r.length]; simp⟩
theorem pf_enumB {e : Expr} {p tpos : Pos} {elts : List Expr} {kk : Nat} {f : Ro → Res PyData} (hK : X.K = K) (hg : Gl X "enumerate") (hm : X.mg "enumerate" = none) (ha : PE X e (tB K mg W f)) (hs : starEach [e] X.env = [(false, eval e X.env)] := by rfl) : PI X (.Tuple elts kk tpos) (.Call (.Name "enumerate" p) [e] [] pos) (tI K mg W true (e1 enumL (eCons f eNil))) :=
  (pi_enum hg hm (pa_cons ha.len pa_nil hs) hs).imp fun σ H R ⟨B, F0, F, ρ, S, p⟩ => by
    subst hK
    unfold e1 eCons eNil at p
    have p2 : PostE mg W σ H (fun ds => ∀ J F' H', Stp F H F' H' → GoodIt X.K J true F' H' ds → R J H') ((f ρ).bind fun d => ofO (enumL [d])) := by
      cases e : f ρ with
      | _ => rw [e] at p; exact p
    refine tE.mk S p2 fun d F1 H1 x _ st rx p3 hlen => ?_
    obtain ⟨z, ez, q⟩ := p3.ofO
    cases d with
    | list ds =>
      cases ez
      obtain ⟨a, xs, rfl, ha, rr⟩ := rx.list
      exact ⟨a, xs, rfl, SqL.of ha, q _ _ _ st (good_enum (.inl rfl) ha rr (by rw [← rr.length]; have := (hlen _ rfl).1 _ (SqL.of ha); rw [sizeLine_eq] at this; exact this))⟩
    | _ => cases ez
theorem pf_enumF {e : Expr} {p tpos : Pos} {elts : List Expr} {kk : Nat} {f : Ro → Res PyData} (hK : X.K = K) (hg : Gl X "enumerate") (hm : X.mg "enumerate" = none) (ha : PE X e (tF K mg W f)) (hs : starEach [e] X.env = [(false, eval e X.env)] := by rfl) : PI X (.Tuple elts kk tpos) (.Call (.Name "enumerate" p) [e] [] pos) (tI K mg W Z (e1 enumL (eCons f eNil))) :=
  (pi_enum hg hm (pa_cons ha.len pa_nil hs) hs).imp fun σ H R ⟨B, F0, F, ρ, S, p⟩ => by
    subst hK
    unfold e1 eCons eNil at p
    have p2 : PostE mg W σ H (fun ds => ∀ J F' H', Stp F H F' H' → GoodIt X.K J Z F' H' ds → R J H') ((f ρ).bind fun d => ofO (enumL [d])) := by
      cases e : f ρ with
      | _ => rw [e] at p; exact p
    refine tE.mk S p2 fun d F1 H1 x _ st rx p3 hlen => ?_
    obtain ⟨z, ez, q⟩ := p3.ofO
    cases d with
    | list ds =>
      cases ez
      cases rx with
      | lst f ha rr => exact ⟨_, _, rfl, SqL.of ha, q _ _ _ st (good_enum (.inr f) ha rr (by rw [← rr.length]; have := (hlen _ rfl).1 _ (SqL.of ha); rw [sizeLine_eq] at this; exact this))⟩
    | _ => cases ez
/-- zip(list, list) -/
def zipL : List PyData → Option (List PyData)
  | [.list xs, .list ys] => if xs.length ≤ 16777216 then some ((xs.zip ys).map fun p => .tuple [p.1, p.2]) else none
  | _ => none
theorem good_zip {F1 : Rg} {H1 : Hp} {a b : Addr} {xs ys : List V} {ds es : List PyData} (hZ : Z = true ∨ F1 a) (hZ2 : Z = true ∨ F1 b) (ha : H1 a = some (.lst xs)) (r : Rps K F1 H1 xs ds) (hb : H1 b = some (.lst ys)) (r2 : Rps K F1 H1 ys es) (hl : ds.length ≤ 16777216) : GoodIt K (Itz K a b) Z F1 H1 ((ds.zip es).map fun p => .tuple [p.1, p.2]) where
  len := by simp; omega
  go := fun i d F H e k => by
    rw [List.getElem?_map] at e
    cases e3 : (ds.zip es)[i]? with
    | none => rw [e3] at e; cases e
    | some pr =>
      rw [e3] at e
      obtain ⟨e1, e2⟩ := List.getElem?_zip_eq_some.mp e3
      obtain ⟨v, h1, h2⟩ := r.get e1
      obtain ⟨w, g1, g2⟩ := r2.get e2
      have ha' := k.keep a hZ _ ha
      have hb' := k.keep b hZ2 _ hb
      refine ⟨⟨xs, ys, v, w, SqL.of ha', SqL.of hb', h1, g1⟩, fun x H' y => ?_⟩
      obtain ⟨T, x', y', rfl, hT, rfl, y1, y2⟩ := y
      have z1 := y1 xs (SqL.of ha')
      rw [h1] at z1
      cases z1
      have z2 := y2 ys (SqL.of hb')
      rw [g1] at z2
      cases z2
      refine ⟨_, Stp.add hT, ?_⟩
      have ed : d = .tuple [pr.1, pr.2] := by simpa using e.symm
      rw [ed]
      exact Rp.newT hT (.cons (h2.fk k.fk) (.cons (g2.fk k.fk) .nil))
  stop := fun F H k => ⟨xs, ys, SqL.of (k.keep a hZ _ ha), SqL.of (k.keep b hZ2 _ hb), by rw [r.length, r2.length, List.length_map, List.length_zip]; omega⟩
theorem pf_zipB {e e2 : Expr} {p tpos : Pos} {elts : List Expr} {kk : Nat} {g : Ro → Res (List PyData)} (hK : X.K = K) (hg : Gl X "zip") (hm : X.mg "zip" = none) (ha : PA X [e, e2] (tABs K mg W g))
    (hs : starEach [e, e2] X.env = (false, eval e X.env) :: starEach [e2] X.env := by rfl) (hpl : (backTo pos (starEach [e2] X.env)).any (·.1) = false := by rfl) : PI X (.Tuple elts kk tpos) (.Call (.Name "zip" p) [e, e2] [] pos) (tI K mg W true (e1 zipL g)) :=
  (pi_zip hg hm ha hs hpl).imp fun σ H R ⟨B, F0, F, ρ, S, p⟩ => by
    subst hK
    refine tABs.mk S p fun ds F1 H1 vs _ st rs p => ?_
    obtain ⟨z, ez, q⟩ := p.ofO
    unfold zipL at ez
    split at ez
    · split at ez
      · rename_i hl
        cases ez
        obtain ⟨v, w, rfl, rv, rw'⟩ := rs.two
        obtain ⟨a, xs, rfl, ha, r⟩ := rv.list
        obtain ⟨b, ys, rfl, hb, r2⟩ := rw'.list
        exact ⟨a, b, xs, ys, rfl, SqL.of ha, SqL.of hb, q _ _ _ st (good_zip (.inl rfl) (.inl rfl) ha r hb r2 hl)⟩
      · cases ez
    · cases ez
theorem pf_zipF {e e2 : Expr} {p tpos : Pos} {elts : List Expr} {kk : Nat} {g : Ro → Res (List PyData)} (hK : X.K = K) (hg : Gl X "zip") (hm : X.mg "zip" = none) (ha : PA X [e, e2] (tAs K mg W g))
    (hs : starEach [e, e2] X.env = (false, eval e X.env) :: starEach [e2] X.env := by rfl) (hpl : (backTo pos (starEach [e2] X.env)).any (·.1) = false := by rfl) : PI X (.Tuple elts kk tpos) (.Call (.Name "zip" p) [e, e2] [] pos) (tI K mg W Z (e1 zipL g)) :=
  (pi_zip hg hm ha hs hpl).imp fun σ H R ⟨B, F0, F, ρ, S, p⟩ => by
    subst hK
    refine tAs.mk S p fun ds F1 H1 vs _ st rs p => ?_
    obtain ⟨z, ez, q⟩ := p.ofO
    unfold zipL at ez
    split at ez
    · split at ez
      · rename_i hl
        cases ez
        cases rs with
        | cons rv rs =>
          cases rs with
          | cons rw' rs =>
            cases rs
            cases rv with
            | lst f1 ha r =>
              cases rw' with
              | lst f2 hb r2 => exact ⟨_, _, _, _, rfl, SqL.of ha, SqL.of hb, q _ _ _ st (good_zip (.inr f1) (.inr f2) ha r hb r2 hl)⟩
      · cases ez
    · cases ez
end

/-! ### targets -/
def WpEq (is : List Nat) (σ' σ : L2.St) : Prop := ∀ vs : List Nat, (∀ i ∈ is, i ∈ vs) → L2.wipe σ' vs = L2.wipe σ vs
theorem WpEq.trans {is js : List Nat} {a b c : L2.St} (h : WpEq is b a) (g : WpEq js c b) : WpEq (is ++ js) c a := fun vs hv =>
  (g vs fun i hi => hv i (List.mem_append_right _ hi)).trans (h vs fun i hi => hv i (List.mem_append_left _ hi))
theorem wipe_set (σ : L2.St) (i : Nat) (x : Option V) : ∀ vs : List Nat, L2.wipe (σ.set i x) vs = if i ∈ vs then L2.wipe σ vs else (L2.wipe σ vs).set i x
  | [] => by simp [L2.wipe]
  | v :: vs => by
    unfold L2.wipe
    rw [wipe_set σ i x vs]
    by_cases h : i ∈ vs
    · rw [if_pos h, if_pos (List.mem_cons_of_mem _ h)]
    · rw [if_neg h]
      by_cases e : i = v
      · subst e
        rw [if_pos (List.mem_cons_self ..), List.set_set]
      · rw [if_neg (by simp [e, h]), List.set_comm _ _ e]
theorem WpEq.set (σ : L2.St) (i : Nat) (x : Option V) : WpEq [i] (σ.set i x) σ := fun vs h => by
  rw [wipe_set, if_pos (h i (List.mem_cons_self ..))]
def tTg (K : PySem.W.Frag) (is : List Nat) (g : PyData → Ro → Option Ro) : TG := fun v σ H Q =>
  ∃ (B : Hp) (F0 F : Rg) (ρ : Ro) (d : PyData), Ste K B F0 F H σ ρ ∧ Rp K F H v d ∧ ∃ ρ', g d ρ = some ρ' ∧ ∀ σ', Ste K B F0 F H σ' ρ' → WpEq is σ' σ → Q σ' H
def tTgs (K : PySem.W.Frag) (is : List Nat) (g : List PyData → Ro → Option Ro) : TGs := fun vs σ H Q =>
  ∃ (B : Hp) (F0 F : Rg) (ρ : Ro) (ds : List PyData), Ste K B F0 F H σ ρ ∧ Rps K F H vs ds ∧ ∃ ρ', g ds ρ = some ρ' ∧ ∀ σ', Ste K B F0 F H σ' ρ' → WpEq is σ' σ → Q σ' H
theorem _root_.L2.PG.imp {X : Cx} {e : Expr} {t t' : TG} (h : PG X e t) (i : ∀ v σ H Q, t' v σ H Q → t v σ H Q) : PG X e t' := ⟨fun pins s σ H v u Q I r q => h.run pins s σ H v u Q I r (i v σ H Q q)⟩
theorem _root_.L2.PG.or {X : Cx} {e : Expr} {t t' : TG} (h : PG X e t) (h' : PG X e t') : PG X e (fun v σ H Q => t v σ H Q ∨ t' v σ H Q) := ⟨fun pins s σ H v u Q I r q => q.elim (h.run pins s σ H v u Q I r) (h'.run pins s σ H v u Q I r)⟩
theorem _root_.L2.PGs.imp {X : Cx} {e : List Expr} {t t' : TGs} (h : PGs X e t) (i : ∀ v σ H Q, t' v σ H Q → t v σ H Q) : PGs X e t' := ⟨fun pins s σ H v u Q I r q => h.run pins s σ H v u Q I r (i v σ H Q q)⟩
def gSet (i : Nat) : PyData → Ro → Option Ro := fun d ρ => some (ρ.set i (.val d))
def gsNil : List PyData → Ro → Option Ro := fun ds ρ => match ds with
  | [] => some ρ
  | _ => none
def gsCons (g : PyData → Ro → Option Ro) (gs : List PyData → Ro → Option Ro) : List PyData → Ro → Option Ro := fun ds ρ => match ds with
  | [] => none
  | d :: ds => (g d ρ).bind (gs ds)
def gUnp (gs : List PyData → Ro → Option Ro) : PyData → Ro → Option Ro := fun d ρ => match d with
  | .tuple ds => gs ds ρ
  | .list ds => gs ds ρ
  | _ => none
section
variable {X : Cx} {K : PySem.W.Frag} {pos : Pos}
theorem pf_gname (i : Nat) {x : Str} (hN : X.N.Nodup) (hi : X.N[i]? = some x) (hx : Loc X.env.scope x) (hf : X.fn x = true ∨ X.env.scope.names.lookup x = some .local := by first | exact .inl rfl | exact .inr rfl | assumption) : PG X (.Name x pos) (tTg K [i] (gSet i)) :=
  (pg_name hN hi hx hf).imp fun v σ H Q ⟨B, F0, F, ρ, d, S, r, ρ', e, h⟩ => by
    cases e
    exact h _ (S.set_val r) (WpEq.set _ _ _)
theorem pf_gnil : PGs X [] (tTgs K [] gsNil) := pgs_nil.imp fun vs σ H Q ⟨B, F0, F, ρ, ds, S, r, ρ', e, h⟩ => by
  cases r with
  | nil => cases e; exact ⟨rfl, h σ S fun vs _ => rfl⟩
  | cons a b => cases e
theorem pf_gcons {e : Expr} {es : List Expr} {is js : List Nat} {g : PyData → Ro → Option Ro} {gs : List PyData → Ro → Option Ro} (h1 : PG X e (tTg K is g)) (h2 : PGs X es (tTgs K js gs))
    (hs : (assignEach (e :: es) X.env).map (·.2) = assign e X.env :: (assignEach es X.env).map (·.2) := by rfl) : PGs X (e :: es) (tTgs K (is ++ js) (gsCons g gs)) := (pgs_cons h1 h2 hs).imp fun vs σ H Q ⟨B, F0, F, ρ, ds, S, r, ρ', e, h⟩ => by
  cases r with
  | nil => cases e
  | cons a b =>
    unfold gsCons at e
    obtain ⟨ρ1, e1, e2⟩ := Option.bind_eq_some_iff.mp e
    refine ⟨_, _, rfl, B, F0, F, ρ, _, S, a, ρ1, e1, fun σ1 S1 w1 => ?_⟩
    exact ⟨B, F0, F, ρ1, _, S1, b, ρ', e2, fun σ2 S2 w2 => h σ2 S2 (w1.trans w2)⟩
theorem gsCons_len {gs : List PyData → Ro → Option Ro} {g : PyData → Ro → Option Ro} {n : Nat} (h : ∀ ds ρ ρ', gs ds ρ = some ρ' → ds.length = n) : ∀ ds ρ ρ', gsCons g gs ds ρ = some ρ' → ds.length = n + 1 := fun ds ρ ρ' e => by
  cases ds with
  | nil => cases e
  | cons d ds =>
    obtain ⟨ρ1, e1, e2⟩ := Option.bind_eq_some_iff.mp e
    rw [List.length_cons, h ds ρ1 ρ' e2]
theorem gsNil_len : ∀ ds ρ ρ', gsNil ds ρ = some ρ' → ds.length = 0 := fun ds ρ ρ' e => by
  cases ds with
  | nil => rfl
  | cons d ds => cases e
theorem pf_gtup {es : List Expr} {k : Nat} {is : List Nat} {gs : List PyData → Ro → Option Ro} {n : Nat} (hK : X.K = K) (hc : X.calm = true) (h : PGs X es (tTgs K is gs)) (hl : ∀ ds ρ ρ', gs ds ρ = some ρ' → ds.length = n)
    (hn : (assignEach es X.env).length = n := by rfl) (hst : (assignEach es X.env).findIdx? (·.1) = none := by rfl) : PG X (.Tuple es k pos) (tTg K is (gUnp gs)) :=
  ((pg_tup hc h hn hst).or (pg_lst hc h hn hst)).imp fun v σ H Q ⟨B, F0, F, ρ, d, S, r, ρ', e, h⟩ => by
    subst hK
    cases d with
    | tuple ds =>
      obtain ⟨a, xs, rfl, hq, rr⟩ := (RpB.rp r).tuple
      exact .inl ⟨a, xs, rfl, hq, by rw [rr.length]; exact hl _ _ _ e, B, F0, F, ρ, ds, S, rr, ρ', e, h⟩
    | list ds =>
      obtain ⟨a, xs, rfl, hq, rr⟩ := (RpB.rp r).list
      exact .inr ⟨a, xs, rfl, SqL.of hq, by rw [rr.length]; exact hl _ _ _ e, B, F0, F, ρ, ds, S, rr, ρ', e, h⟩
    | _ => cases e

/-! ### comprehensions -/
def compF (g : PyData → Ro → Option Ro) (c : Ro → Res Bool) (f : Ro → Res PyData) (ρ : Ro) : List PyData → Option (List PyData)
  | [] => some []
  | d :: ds => (g d ρ).bind fun ρ1 => (c ρ1).opt.bind fun b => if b = true then (f ρ1).opt.bind fun y => (compF g c f ρ ds).map (y :: ·) else compF g c f ρ ds
def eComp (own : List Nat) (fi : Ro → Res (List PyData)) (g : PyData → Ro → Option Ro) (c : Ro → Res Bool) (f : Ro → Res PyData) : Ro → Res (List PyData) := fun ρ => (fi ρ).bind fun ds => ofO (compF g c f (wipeR ρ own) ds)
def eTrue : Ro → Res Bool := fun _ => .ok true
theorem pf_tyes {mg : Str → Option Value} {W : WX} : PTs X [] (tTs K mg W eTrue) := ⟨fun pins s σ H Q I ⟨B, F0, F, ρ, S, p⟩ => pts_nil.run pins s σ H Q I (p F H Stp.refl)⟩
theorem pf_tone {mg : Str → Option Value} {W : WX} {c : Expr} {f : Ro → Res Bool} (h : PT X c (tTs K mg W f)) : PTs X [c] (tTs K mg W f) := pts_one h
theorem opt_some {α : Type} {r : Res α} {a : α} (h : r.opt = some a) : r = .ok a := by
  cases r with
  | ok b => cases h; rfl
  | exc c k => cases h
  | bad => cases h
variable {mg : Str → Option Value} {W : WX}
theorem tLc_of {fi : Ro → Res (List PyData)} {g : PyData → Ro → Option Ro} {c : Ro → Res Bool} {f : Ro → Res PyData} {own is : List Nat} (his : ∀ i ∈ is, i ∈ own) {σ : L2.St} {H : Hp} {Q : VK} (h : tN K mg W (eComp own fi g c f) σ H Q) :
    tLc (tI K mg W true fi) (tTg K is g) (tTs K mg W0 c) (tF K mg W0 f) own σ H Q := by
  obtain ⟨B, F0, F, ρ, S, p⟩ := h
  refine ⟨B, F0, F, ρ, S, ?_⟩
  unfold eComp at p
  cases ei : fi ρ with
  | exc c k => rw [ei] at p; exact p
  | bad => rw [ei] at p; exact p
  | ok ds =>
    rw [ei] at p
    obtain ⟨zs, ez, q⟩ := PostE.ofO (r := compF g c f (wipeR ρ own) ds) p
    intro J F1 H1 st G D hD
    -- the word: the turn, what stands at D, the rest
    refine ⟨fun i m H2 => m = ds.length - i ∧ i ≤ ds.length ∧ ∃ (F2 : Rg) (acc : List V) (done : List PyData) (rest : List PyData), Stp F1 H1 F2 H2 ∧ ¬ F2 D ∧ H2 D = some (.lst acc) ∧ acc.length ≤ i ∧ Rps K F2 H2 acc done ∧
      compF g c f (wipeR ρ own) (ds.drop i) = some rest ∧ zs = done ++ rest, ⟨ds.length, by simp, Nat.zero_le _, F1, [], [], zs, Stp.lay hD, fun z => (S.stp st).trk D z hD, upd_same, Nat.le_refl _, .nil, by simpa using ez, rfl⟩, ?_⟩
    rintro i m H2 ⟨rfl, hi, F2, acc, done, rest, s2, nF, hDl, hal, ra, hrest, hz⟩
    have kp : Kept true F1 H1 F2 H2 := ⟨s2.sub, fun a _ o e => s2.keep a o e⟩
    by_cases hlt : i < ds.length
    · obtain ⟨g1, g2⟩ := G.go i ds[i] F2 H2 (by simp [hlt]) kp
      refine .inr ⟨g1, fun H' => ∃ (F3 : Rg) (acc : List V) (done : List PyData) (rest : List PyData), Stp F1 H1 F3 H' ∧ ¬ F3 D ∧ H' D = some (.lst acc) ∧ acc.length ≤ i + 1 ∧ Rps K F3 H' acc done ∧
        compF g c f (wipeR ρ own) (ds.drop (i + 1)) = some rest ∧ zs = done ++ rest, fun H' hh => ⟨ds.length - (i + 1), by omega, rfl, hlt, hh⟩, fun x H3 y => ?_⟩
      obtain ⟨F3, st3, rx⟩ := g2 x H3 y
      have S3 : Ste K B F0 F3 H3 (L2.wipe σ own) (wipeR ρ own) := ((S.stp (st.trans (s2.trans st3))).wipe own)
      rw [List.drop_eq_getElem_cons hlt] at hrest
      unfold compF at hrest
      obtain ⟨ρ1, e1, hrest⟩ := Option.bind_eq_some_iff.mp hrest
      refine ⟨B, F0, F3, wipeR ρ own, ds[i], S3, rx, ρ1, e1, fun σ2 S4 w => ⟨?_, ?_⟩⟩
      · have hw := w own his
        rw [hw]
        clear hw w S4
        have idem : ∀ (vs ws : List Nat), (∀ v ∈ vs, v ∈ ws) → L2.wipe (L2.wipe σ ws) vs = L2.wipe σ ws := by
          intro vs
          induction vs with
          | nil => intro ws _; rfl
          | cons v vs ih =>
            intro ws hv
            show (L2.wipe (L2.wipe σ ws) vs).set v none = L2.wipe σ ws
            rw [ih ws fun u hu => hv u (List.mem_cons_of_mem _ hu)]
            have hvw := hv v (List.mem_cons_self ..)
            have := wipe_set σ v none ws
            rw [if_pos hvw] at this
            have key : ∀ ws : List Nat, v ∈ ws → (L2.wipe σ ws).set v none = L2.wipe σ ws := by
              intro ws
              induction ws with
              | nil => intro h; cases h
              | cons w ws ih2 =>
                intro h
                unfold L2.wipe
                by_cases e : v = w
                · subst e; rw [List.set_set]
                · rw [List.set_comm _ _ (Ne.symm e)]
                  rcases List.mem_cons.mp h with e2 | h2
                  · exact absurd e2 e
                  · rw [ih2 h2]
            exact key ws hvw
        exact idem own own fun _ h => h
      · obtain ⟨b, eb, hrest⟩ := Option.bind_eq_some_iff.mp hrest
        refine ⟨B, F0, F3, ρ1, S4, ?_⟩
        rw [opt_some eb]
        intro F4 H4 st4
        have s24 := st3.trans st4
        have nF4 : ¬ F4 D := fun z => (s24.new D z).elim nF fun z => by have := z.1; rw [hDl] at this; cases this
        cases b with
        | false =>
          rw [if_neg (by decide)] at hrest ⊢
          exact ⟨F4, acc, done, rest, s2.trans s24, nF4, s24.keep _ _ hDl, by omega, ra.stp s24, hrest, hz⟩
        | true =>
          rw [if_pos rfl] at hrest ⊢
          obtain ⟨y, ey, hrest⟩ := Option.bind_eq_some_iff.mp hrest
          refine ⟨B, F0, F4, ρ1, S4.stp st4, ?_⟩
          rw [opt_some ey]
          intro F5 H5 v st5 ry
          have s25 := s24.trans st5
          have hD5 : H5 D = some (.lst acc) := s25.keep _ _ hDl
          refine ⟨acc, hD5, by have := G.len; rw [sizeLine_eq]; omega, ?_⟩
          cases er : compF g c f (wipeR ρ own) (ds.drop (i + 1)) with
          | none => rw [er] at hrest; cases hrest
          | some r2 =>
            rw [er] at hrest
            cases hrest
            have nF5 : ¬ F5 D := fun z => (s25.new D z).elim nF fun z => by have := z.1; rw [hDl] at this; cases this
            have fk : FK F5 H5 F5 (upd H5 D (.lst (acc ++ [v]))) := ⟨fun _ h => h, fun b hb o e => by rw [upd_ne (show b ≠ D from fun z => by rw [z] at hb; exact nF5 hb)]; exact e⟩
            have s15 := s2.trans s25
            refine ⟨F5, acc ++ [v], done ++ [y], r2, ⟨s15.sub, fun b o e => ?_, fun b hb => (s15.new b hb).imp id fun z => ⟨z.1, ?_⟩⟩, nF5, upd_same, by simp; omega, (((ra.stp s25).append (.cons ry .nil))).fk fk, rfl, by rw [hz]; simp⟩
            · rw [upd_ne (ne_of_none e hD)]; exact s15.keep b o e
            · by_cases e : b = D
              · rw [e, upd_same]; simp
              · rw [upd_ne e]; exact z.2
    · have e : i = ds.length := by omega
      subst e
      refine .inl ⟨G.stop F2 H2 kp, ?_⟩
      rw [List.drop_length] at hrest
      cases hrest
      rw [List.append_nil] at hz
      subst hz
      exact q F2 H2 _ (st.trans s2) ⟨D, acc, rfl, st.keep.free hD, nF, hDl, ra⟩
/-- [e for x in .. if ..] -/
theorem pf_lc {elt tg iter : Expr} {ifs : List Expr} {scope : Scope} {own : List (Str × Nat)} {is : List Nat} {fi : Ro → Res (List PyData)} {g : PyData → Ro → Option Ro} {c : Ro → Res Bool} {f : Ro → Res PyData} (hc : X.calm = true) (hN : X.N.Nodup) (hi : PI X tg iter (tI K mg W true fi)) (ok : BlkOk X.N X.env.scope scope own)
    (hg : ∀ (s : Shared) (H : Hp) (C : Addr) (cl : List (Str × Addr)) (fp : List Addr), PG (X.blk s H scope (compEnvC scope cl C X.env) fp) tg (tTg K is g)) (ht : ∀ (s : Shared) (H : Hp) (C : Addr) (cl : List (Str × Addr)) (fp : List Addr), PTs (X.blk s H scope (compEnvC scope cl C X.env) fp) ifs (tTs K mg W0 c))
    (he : ∀ (s : Shared) (H : Hp) (C : Addr) (cl : List (Str × Addr)) (fp : List Addr), PE (X.blk s H scope (compEnvC scope cl C X.env) fp) elt (tF K mg W0 f)) (his : ∀ i ∈ is, i ∈ own.map (·.2) := by decide) (hs : ∀ x, foldedSetIterable iter X.env x = pure x := by intro _; rfl) :
    PE X (.ListComp elt [⟨tg, iter, ifs, 0⟩] scope pos) (tN K mg W (eComp (own.map (·.2)) fi g c f)) := (pe_lc hc hN hi ok hg ht he hs).imp fun _ _ _ h => tLc_of his h
end
end Pf
/-! Pf5: statements, defs. -/
namespace Pf
open PySem PySem.Spec PyProof.Rows L2

inductive Out where
  | nx (ρ : Ro)
  | ret (d : PyData)
  | bk (ρ : Ro)
  | ct (ρ : Ro)
  | exc (c : Str) (k : Int)
  | bad
def Out.seq : Out → (Ro → Out) → Out
  | .nx ρ, f => f ρ
  | .ret d, _ => .ret d
  | .bk ρ, _ => .bk ρ
  | .ct ρ, _ => .ct ρ
  | .exc c k, _ => .exc c k
  | .bad, _ => .bad
@[simp] theorem Out.seq_nx (ρ : Ro) (f : Ro → Out) : (Out.nx ρ).seq f = f ρ := rfl
@[simp] theorem Out.seq_ret (d : PyData) (f : Ro → Out) : (Out.ret d).seq f = .ret d := rfl
@[simp] theorem Out.seq_bk (ρ : Ro) (f : Ro → Out) : (Out.bk ρ).seq f = .bk ρ := rfl
@[simp] theorem Out.seq_ct (ρ : Ro) (f : Ro → Out) : (Out.ct ρ).seq f = .ct ρ := rfl
@[simp] theorem Out.seq_exc (c : Str) (k : Int) (f : Ro → Out) : (Out.exc c k).seq f = .exc c k := rfl
@[simp] theorem Out.seq_bad (f : Ro → Out) : Out.bad.seq f = .bad := rfl
/-- from an answer on -/
def Res.out {α : Type} : Res α → (α → Out) → Out
  | .ok a, f => f a
  | .exc c k, _ => .exc c k
  | .bad, _ => .bad
@[simp] theorem Res.out_ok {α : Type} (a : α) (f : α → Out) : (Res.ok a).out f = f a := rfl
@[simp] theorem Res.out_exc {α : Type} (c : Str) (k : Int) (f : α → Out) : (Res.exc c k : Res α).out f = .exc c k := rfl
@[simp] theorem Res.out_bad {α : Type} (f : α → Out) : (Res.bad : Res α).out f = .bad := rfl

def PostS (K : PySem.W.Frag) (mg : Str → Option Value) (W : WX) (B : Hp) (F0 F : Rg) (H : Hp) (D : Ends) : Out → Prop
  | .nx ρ' => ∀ σ' F' H', Ste K B F0 F' H' σ' ρ' → FK F H F' H' → D.nx σ' H'
  | .bk ρ' => ∀ σ' F' H', Ste K B F0 F' H' σ' ρ' → FK F H F' H' → D.bk σ' H'
  | .ct ρ' => ∀ σ' F' H', Ste K B F0 F' H' σ' ρ' → FK F H F' H' → D.ct σ' H'
  | .ret d => ∀ v F' H', Stp F0 B F' H' → Rp K F' H' v d → D.rt v H'
  | .exc c k => ∀ (σ' : L2.St) (H' : Hp) (dx C : Addr), Same B H' → H' dx = some (.xd [("at", .int k)]) → mg c = some (.ref C) → W (.ref C) (some dx) σ' H'
  | .bad => False
def tS (K : PySem.W.Frag) (mg : Str → Option Value) (W : WX) (g : Ro → Out) : TS := fun D σ H =>
  ∃ (B : Hp) (F0 F : Rg) (ρ : Ro), Ste K B F0 F H σ ρ ∧ PostS K mg W B F0 F H D (g ρ)
section
variable {K : PySem.W.Frag} {mg : Str → Option Value} {W : WX} {B : Hp} {F0 F F1 : Rg} {H H1 : Hp} {D : Ends} {σ : L2.St} {ρ : Ro}
theorem PostS.fk {o : Out} (k : FK F H F1 H1) (h : PostS K mg W B F0 F H D o) : PostS K mg W B F0 F1 H1 D o := by
  cases o with
  | nx ρ' => exact fun σ' F' H' s q => h σ' F' H' s (k.trans q)
  | bk ρ' => exact fun σ' F' H' s q => h σ' F' H' s (k.trans q)
  | ct ρ' => exact fun σ' F' H' s q => h σ' F' H' s (k.trans q)
  | ret d => exact h
  | exc c k => exact h
  | bad => exact h
theorem PostE.of_out {α : Type} {P : α → Prop} {r : Res α} {f : α → Out} (S : Ste K B F0 F H σ ρ) (p : PostS K mg W B F0 F H D (r.out f)) (h : ∀ a, r = .ok a → PostS K mg W B F0 F H D (f a) → P a) : PostE mg W σ H P r := by
  cases r with
  | ok a => exact h a rfl p
  | exc c k => exact fun H' dx C s e1 e2 => p σ H' dx C (S.same.trans s) e1 e2
  | bad => exact p
theorem Ste.out {F' : Rg} {H' : Hp} (S : Ste K B F0 F H σ ρ) (s : Stp F H F' H') : Stp F0 B F' H' where
  sub := fun a h => s.sub a (S.sub a h)
  keep := S.same.trans s.keep
  new := fun a h => (s.new a h).elim (fun q => (S.reg a q).imp id fun z => ⟨z, Same.some s.keep (S.trk a q)⟩) fun q => .inr ⟨S.same.free q.1, q.2⟩
end
theorem _root_.L2.PS.imp {X : Cx} {e : Stmt} {t t' : TS} (h : PS X e t) (i : ∀ D σ H, t' D σ H → t D σ H) : PS X e t' := ⟨fun pins s σ H D I q => h.run pins s σ H D I (i D σ H q)⟩
theorem _root_.L2.PSs.imp {X : Cx} {e : List Stmt} {t t' : TS} (h : PSs X e t) (i : ∀ D σ H, t' D σ H → t D σ H) : PSs X e t' := ⟨fun pins s σ H D I q => h.run pins s σ H D I (i D σ H q)⟩

/-! ### plain functions -/
def sPass : Ro → Out := .nx
def sSeq (g h : Ro → Out) : Ro → Out := fun ρ => (g ρ).seq h
def sSet (i : Nat) (f : Ro → Res PyData) : Ro → Out := fun ρ => (f ρ).out fun d => .nx (ρ.set i (.val d))
def sSetN (i : Nat) (f : Ro → Res (List PyData)) : Ro → Out := fun ρ => (f ρ).out fun d => .nx (ρ.set i (.own d))
def oNx : Option Ro → Out
  | some ρ => .nx ρ
  | none => .bad
@[simp] theorem oNx_some (ρ : Ro) : oNx (some ρ) = .nx ρ := rfl
@[simp] theorem oNx_none : oNx none = .bad := rfl
def sAsg (g : PyData → Ro → Option Ro) (f : Ro → Res PyData) : Ro → Out := fun ρ => (f ρ).out fun d => oNx (g d ρ)
def sPar (i j : Nat) (fs : Ro → Res (List PyData)) : Ro → Out := fun ρ => (fs ρ).out fun ds => match ds with
  | [d, e] => .nx ((ρ.set i (.val d)).set j (.val e))
  | _ => .bad
def sPar3 (i j l : Nat) (fs : Ro → Res (List PyData)) : Ro → Out := fun ρ => (fs ρ).out fun ds => match ds with
  | [d, e, u] => .nx (((ρ.set i (.val d)).set j (.val e)).set l (.val u))
  | _ => .bad
def sExpr (f : Ro → Res PyData) : Ro → Out := fun ρ => (f ρ).out fun _ => .nx ρ
def sApp (i : Nat) (f : Ro → Res PyData) : Ro → Out := fun ρ => match ρ[i]? with
  | some (.own ds) => (f ρ).out fun d => if ds.length < 16777216 then .nx (ρ.set i (.own (ds ++ [d]))) else .bad
  | _ => .bad
def sPut (i : Nat) (fi f : Ro → Res PyData) : Ro → Out := fun ρ => match ρ[i]? with
  | some (.own ds) => (f ρ).out fun d => (fi ρ).out fun x => (match x with
    | .int k => (match ixN ds.length k with
      | some j => .nx (ρ.set i (.own (ds.set j d)))
      | none => .bad)
    | _ => .bad)
  | _ => .bad
def sRet (f : Ro → Res PyData) : Ro → Out := fun ρ => (f ρ).out .ret
def sRetN : Ro → Out := fun _ => .ret .none
def sIf (c : Ro → Res Bool) (g h : Ro → Out) : Ro → Out := fun ρ => (c ρ).out fun b => if b = true then g ρ else h ρ
def sFrz (is : List Nat) (g : Ro → Out) : Ro → Out := fun ρ => g (frz is ρ)
def forF (g : PyData → Ro → Option Ro) (b : Ro → Out) : List PyData → Ro → Out
  | [], ρ => .nx ρ
  | d :: ds, ρ => (oNx (g d ρ)).seq fun ρ1 => match b ρ1 with
    | .nx ρ2 => forF g b ds ρ2
    | .ct ρ2 => forF g b ds ρ2
    | .bk ρ2 => .nx ρ2
    | o => o
def sFor (fi : Ro → Res (List PyData)) (g : PyData → Ro → Option Ro) (b : Ro → Out) : Ro → Out := fun ρ => (fi ρ).out fun ds => forF g b ds ρ
def whF (c : Ro → Res Bool) (b : Ro → Out) : Nat → Ro → Out
  | 0, _ => .bad
  | n + 1, ρ => (c ρ).out fun k => if k = true then (match b ρ with
    | .nx ρ2 => whF c b n ρ2
    | .ct ρ2 => whF c b n ρ2
    | .bk ρ2 => .nx ρ2
    | o => o) else .nx ρ
def sWhile (n : Nat) (c : Ro → Res Bool) (b : Ro → Out) : Ro → Out := whF c b n
def sRaise (c : Str) (f : Ro → Res PyData) : Ro → Out := fun ρ => (f ρ).out fun d => match d with
  | .int k => .exc c k
  | _ => .bad
/-- handlers: the class's name, what is handed back -/
def hdl : List (Str × (Int → PyData)) → Str → Int → Out
  | [], c, k => .exc c k
  | (x, h) :: r, c, k => if c = x then .ret (h k) else hdl r c k
def sTry (g : Ro → Out) (hs : List (Str × (Int → PyData))) : Ro → Out := fun ρ => match g ρ with
  | .exc c k => hdl hs c k
  | o => o
def outR : Out → Res PyData
  | .nx _ => .ok .none
  | .ret d => .ok d
  | .exc c k => .exc c k
  | _ => .bad
@[simp] theorem outR_nx (ρ : Ro) : outR (.nx ρ) = .ok .none := rfl
@[simp] theorem outR_ret (d : PyData) : outR (.ret d) = .ok d := rfl
@[simp] theorem outR_exc (c : Str) (k : Int) : outR (.exc c k) = .exc c k := rfl
@[simp] theorem outR_bad : outR .bad = .bad := rfl
/-- a def of n parameters and j further names -/
def mDef (n j : Nat) (g : Ro → Out) : List PyData → Res PyData := fun ds => if ds.length = n then outR (g (ds.map .val ++ List.replicate j .un)) else .bad

section
variable {X : Cx} {K : PySem.W.Frag} {mg : Str → Option Value} {W : WX} {pos : Pos}
theorem ps_nil : PSs X [] (tS K mg W sPass) := pss_nil.imp fun D σ H ⟨B, F0, F, ρ, S, p⟩ => p σ F H S FK.refl
theorem ps_seq {st : Stmt} {rest : List Stmt} {g h : Ro → Out} (h1 : PS X st (tS K mg W g)) (h2 : PSs X rest (tS K mg W h)) : PSs X (st :: rest) (tS K mg W (sSeq g h)) :=
  (pss_cons h1 h2).imp fun D σ H ⟨B, F0, F, ρ, S, p⟩ => by
    refine ⟨B, F0, F, ρ, S, ?_⟩
    unfold sSeq at p
    cases e : g ρ with
    | nx ρ' => rw [e] at p; exact fun σ' F' H' S' k => ⟨B, F0, F', ρ', S', p.fk k⟩
    | ret d => rw [e] at p; exact p
    | bk ρ' => rw [e] at p; exact p
    | ct ρ' => rw [e] at p; exact p
    | exc c k => rw [e] at p; exact p
    | bad => rw [e] at p; exact p
theorem ps_1 {st : Stmt} {g : Ro → Out} (h1 : PS X st (tS K mg W g)) : PSs X [st] (tS K mg W g) := pss_one h1
theorem pq_pass : PS X (.Pass pos) (tS K mg W sPass) := ps_pass.imp fun D σ H ⟨B, F0, F, ρ, S, p⟩ => p σ F H S FK.refl
theorem pq_break : PS X (.Break pos) (tS K mg W .bk) := ps_break.imp fun D σ H ⟨B, F0, F, ρ, S, p⟩ => p σ F H S FK.refl
theorem pq_continue : PS X (.Continue pos) (tS K mg W .ct) := ps_continue.imp fun D σ H ⟨B, F0, F, ρ, S, p⟩ => p σ F H S FK.refl
theorem pq_set {i : Nat} {x : Str} {e : Expr} {f : Ro → Res PyData} {pos' : Pos} (hN : X.N.Nodup) (hi : X.N[i]? = some x) (hx : Loc X.env.scope x) (he : PE X e (tF K mg W f)) (hs : swapsWith e (some (.Name x pos')) pos.line X.env = pure false := by rfl) (hf : X.fn x = true ∨ X.env.scope.names.lookup x = some .local := by first | exact .inl rfl | exact .inr rfl | assumption) :
    PS X (.Assign [.Name x pos'] e pos) (tS K mg W (sSet i f)) := (ps_set hN hi hx he hs hf).imp fun D σ H ⟨B, F0, F, ρ, S, p⟩ =>
  ⟨B, F0, F, ρ, S, PostE.of_out S p fun d _ q F' H' v st r => q _ F' H' ((S.stp st).set_val r) st.fk⟩
theorem set_own_of {i : Nat} {B : Hp} {F0 F F' : Rg} {H H' : Hp} {σ : L2.St} {ρ : Ro} {a : Addr} {xs : List V} {ds : List PyData} (S : Ste K B F0 F H σ ρ) (st : Stp F H F' H') (hn : H a = none) (nf : ¬ F' a) (ha : H' a = some (.lst xs)) (r : Rps K F' H' xs ds) : Ste K B F0 F' H' (σ.set i (some (.ref a))) (ρ.set i (.own ds)) :=
  (S.stp st).set_own nf (S.same.free hn) ha r fun j es _ e z => by
    obtain ⟨b, ys, h1, _, _, h4, _⟩ := S.own j es e
    rw [h1] at z
    cases z
    rw [hn] at h4
    cases h4
theorem pq_setN {i : Nat} {x : Str} {e : Expr} {f : Ro → Res (List PyData)} {pos' : Pos} (hN : X.N.Nodup) (hi : X.N[i]? = some x) (hx : Loc X.env.scope x) (he : PE X e (tN K mg W f)) (hs : swapsWith e (some (.Name x pos')) pos.line X.env = pure false := by rfl) (hf : X.fn x = true ∨ X.env.scope.names.lookup x = some .local := by first | exact .inl rfl | exact .inr rfl | assumption) :
    PS X (.Assign [.Name x pos'] e pos) (tS K mg W (sSetN i f)) := (ps_set hN hi hx he hs hf).imp fun D σ H ⟨B, F0, F, ρ, S, p⟩ =>
  ⟨B, F0, F, ρ, S, PostE.of_out S p fun ds _ q F' H' v st ⟨a, xs, ev, hn, nf, ha, r⟩ => by subst ev; exact q _ F' H' (set_own_of S st hn nf ha r) st.fk⟩
/-- y = [..] on one line, the name a local -/
theorem pq_setLc {own : Bool} {i : Nat} {y : Str} {py : Pos} {elt tg iter : Expr} {ifs : List Expr} {scope : Scope} {ow : List (Str × Nat)} {is : List Nat} {spos : Pos} {fi : Ro → Res (List PyData)} {g : PyData → Ro → Option Ro} {c : Ro → Res Bool} {f : Ro → Res PyData} (hc : X.calm = true) (hN : X.N.Nodup) (hy : X.N[i]? = some y) (hyl : X.env.scope.names.lookup y = some .local)
    (hsw : swapsWith (.ListComp elt [⟨tg, iter, ifs, 0⟩] scope pos) (some (.Name y py)) spos.line X.env = pure true) (hi : PI X tg iter (tI K mg W true fi)) (ok : BlkOk X.N X.env.scope scope ow)
    (hg : ∀ (s : Shared) (H : Hp) (C : Addr) (cl : List (Str × Addr)) (fp : List Addr), PG (X.blk s H scope (compEnvC scope cl C X.env) fp) tg (tTg K is g)) (ht : ∀ (s : Shared) (H : Hp) (C : Addr) (cl : List (Str × Addr)) (fp : List Addr), PTs (X.blk s H scope (compEnvC scope cl C X.env) fp) ifs (tTs K mg W0 c))
    (he : ∀ (s : Shared) (H : Hp) (C : Addr) (cl : List (Str × Addr)) (fp : List Addr), PE (X.blk s H scope (compEnvC scope cl C X.env) fp) elt (tF K mg W0 f)) (his : ∀ i ∈ is, i ∈ ow.map (·.2) := by decide) (hs : ∀ x, foldedSetIterable iter X.env x = pure x := by intro _; rfl) :
    PS X (.Assign [.Name y py] (.ListComp elt [⟨tg, iter, ifs, 0⟩] scope pos) spos) (tS K mg W (if own = true then sSetN i (eComp (ow.map (·.2)) fi g c f) else sSet i (e1 listD (eComp (ow.map (·.2)) fi g c f)))) :=
  (ps_setLc hc hN hy hyl hsw hi ok hg ht he hs).imp fun D σ H ⟨B, F0, F, ρ, S, p⟩ => by
    refine tLc_of his ⟨B, F0, F, ρ, S, ?_⟩
    cases own with
    | true => exact PostE.of_out S p fun ds _ q F' H' v st ⟨a, xs, ev, hn, nf, ha, r⟩ => by subst ev; exact q _ F' H' (set_own_of S st hn nf ha r) st.fk
    | false =>
      have p2 : PostS K mg W B F0 F H D ((eComp (ow.map (·.2)) fi g c f ρ).out fun ds => .nx (ρ.set i (.val (.list ds)))) := by
        rw [if_neg (by decide)] at p
        unfold sSet e1 at p
        cases e : eComp (ow.map (·.2)) fi g c f ρ with
        | _ => rw [e] at p; exact p
      refine PostE.of_out S p2 fun ds _ q F' H' v st ⟨a, xs, ev, hn, nf, ha, r⟩ => ?_
      subst ev
      have s2 : Stp F H (fun b => F' b ∨ b = a) H' := ⟨fun b h => .inl (st.sub b h), st.keep, fun b h => h.elim (fun z => st.new b z) fun z => .inr (by rw [z]; exact ⟨hn, by rw [ha]; simp⟩)⟩
      exact q _ _ H' ((S.stp s2).set_val (.lst (.inr rfl) ha (r.fk ⟨fun _ h => .inl h, fun _ _ _ h => h⟩))) s2.fk
theorem pq_asg {tg e : Expr} {is : List Nat} {g : PyData → Ro → Option Ro} {f : Ro → Res PyData} (he : PE X e (tF K mg W f)) (hg : PG X tg (tTg K is g)) (hs : swapsWithSole [tg] e pos.line X.env = pure false := by rfl) (hw : swappedStores [tg] e X.env = pure none := by rfl)
    (h1 : (assignEach [tg] X.env).map (·.2) = [assign tg X.env] := by rfl) : PS X (.Assign [tg] e pos) (tS K mg W (sAsg g f)) := (ps_asg he hg hs hw h1).imp fun D σ H ⟨B, F0, F, ρ, S, p⟩ => by
  refine ⟨B, F0, F, ρ, S, PostE.of_out S p fun d _ q F' H' v st r => ?_⟩
  cases e : g d ρ with
  | none => rw [e] at q; exact q.elim
  | some ρ' => rw [e] at q; exact ⟨B, F0, F', ρ, d, S.stp st, r, ρ', e, fun σ' S' _ => q σ' F' H' S' st.fk⟩
theorem pq_par {i j : Nat} {x y : Str} {a b : Expr} {fs : Ro → Res (List PyData)} {px py pt : Pos} {kt k2 pt2} (hc : X.calm = true) (hN : X.N.Nodup) (hi : X.N[i]? = some x) (hj : X.N[j]? = some y) (hij : i ≠ j)
    (hx : X.env.scope.names.lookup x = some .local) (hy : X.env.scope.names.lookup y = some .local) (ha : PA X [a, b] (tAs K mg W fs))
    (hw : swappedStores [.Tuple [.Name x px, .Name y py] kt pt] (.Tuple [a, b] k2 pt2) X.env = pure (some [x, y]) := by rfl)
    (hs : swapsWithSole [.Tuple [.Name x px, .Name y py] kt pt] (.Tuple [a, b] k2 pt2) pos.line X.env = pure false := by rfl) :
    PS X (.Assign [.Tuple [.Name x px, .Name y py] kt pt] (.Tuple [a, b] k2 pt2) pos) (tS K mg W (sPar i j fs)) := (ps_par hc hN hi hj hij hx hy ha hw hs).imp fun D σ H ⟨B, F0, F, ρ, S, p⟩ => by
  refine ⟨B, F0, F, ρ, S, PostE.of_out S p fun ds _ q F' H' vs st r => ?_⟩
  match ds, q with
  | [d, e], q =>
    cases r with
    | cons r1 r =>
      cases r with
      | cons r2 r =>
        cases r
        exact ⟨_, _, rfl, q _ F' H' (((S.stp st).set_val r1).set_val r2) st.fk⟩
  | [], q => exact q.elim
  | [_], q => exact q.elim
  | _ :: _ :: _ :: _, q => exact q.elim
theorem pq_expr {e : Expr} {f : Ro → Res PyData} (he : PE X e (tB K mg W f)) (hs : swapsWith e none pos.line X.env = pure false := by rfl) : PS X (.Expr e pos) (tS K mg W (sExpr f)) := (ps_expr he hs).imp fun D σ H ⟨B, F0, F, ρ, S, p⟩ =>
  ⟨B, F0, F, ρ, S, PostE.of_out S p fun d _ q F' H' v st r => q σ F' H' (S.stp st) st.fk⟩
/-- xs.append(e), xs one's own -/
theorem pq_app {i : Nat} {x : Str} {e : Expr} {f : Ro → Res PyData} {p1 p2 p3 : Pos} (hN : X.N[i]? = some x) (hv : Vis X.env.scope x) (he : PE X e (tF K mg W f))
    (hE : ∀ {to : TE} {t : TA}, PE X (.Name x p1) to → PA X [e] t → PE X (.Call (.Attribute (.Name x p1) "append" p2) [e] [] p3) (tBM X.K "list" rAppend to t)) (hs : swapsWith (.Call (.Attribute (.Name x p1) "append" p2) [e] [] p3) none pos.line X.env = pure false := by rfl)
    (hd : (x == ("__debug__" : Str)) = false := by decide) (hcd : (x == ("__classdict__" : Str)) = false := by decide) (hst : starEach [e] X.env = (false, eval e X.env) :: starEach [] X.env := by rfl) :
    PS X (.Expr (.Call (.Attribute (.Name x p1) "append" p2) [e] [] p3) pos) (tS K mg W (sApp i f)) :=
  (ps_expr (hE (pe_var hN hv hd hcd) (pa_cons he pa_nil hst)) hs).imp fun D σ H ⟨B, F0, F, ρ, S, p⟩ => by
    unfold sApp at p
    split at p
    · rename_i ds ei
      obtain ⟨a, xs, h1, h2, h3, h4, h5⟩ := S.own i ds ei
      refine ⟨_, h1, .inl ⟨rfl, xs, SqL.of h4⟩, B, F0, F, ρ, S, PostE.of_out S p fun d _ q F' H' v st r => ?_⟩
      have h4' := st.keep _ _ h4
      split at q
      · rename_i hl
        have S' := S.stp st
        obtain ⟨W1, k1⟩ := S'.write (ys := xs ++ [v]) (es := ds ++ [d]) ei h1 ((h5.stp st).append (.cons r .nil))
        exact ⟨a, xs, v, rfl, rfl, h4', by rw [h5.length, sizeLine_eq]; exact hl, q σ F' _ W1 (st.fk.trans k1)⟩
      · exact q.elim
    · exact p.elim
/-- xs[e] = e2, xs one's own -/
theorem pq_put {i : Nat} {x : Str} {e1 e : Expr} {fi f : Ro → Res PyData} {p1 p2 : Pos} (hN : X.N[i]? = some x) (hv : Vis X.env.scope x) (hi : PE X e1 (tB K mg W fi)) (he : PE X e (tF K mg W f))
    (hE : ∀ {to ti : TE}, PE X (.Name x p1) to → PE X e1 ti → PG X (.Subscript (.Name x p1) e1 p2) (gSub to ti rSetL)) (hs : swapsWithSole [.Subscript (.Name x p1) e1 p2] e pos.line X.env = pure false := by rfl) (hw : swappedStores [.Subscript (.Name x p1) e1 p2] e X.env = pure none := by rfl)
    (hd : (x == ("__debug__" : Str)) = false := by decide) (hcd : (x == ("__classdict__" : Str)) = false := by decide) (h1 : (assignEach [Expr.Subscript (.Name x p1) e1 p2] X.env).map (·.2) = [assign (.Subscript (.Name x p1) e1 p2) X.env] := by rfl) :
    PS X (.Assign [.Subscript (.Name x p1) e1 p2] e pos) (tS K mg W (sPut i fi f)) :=
  (ps_asg he (hE (pe_var hN hv hd hcd) hi) hs hw h1).imp fun D σ H ⟨B, F0, F, ρ, S, p⟩ => by
    unfold sPut at p
    split at p
    · rename_i ds ei
      obtain ⟨a, xs, h1, h2, h3, h4, h5⟩ := S.own i ds ei
      refine ⟨B, F0, F, ρ, S, PostE.of_out S p fun d _ q F' H' v st r => ?_⟩
      refine ⟨_, h1, B, F0, F', ρ, S.stp st, PostE.of_out (S.stp st) (q.fk st.fk) fun z _ q F2 H2 w st2 rz => ?_⟩
      have s12 := st.trans st2
      have h4' := s12.keep _ _ h4
      cases z with
      | int k =>
        have q : PostS K mg W B F0 F' H' D (match ixN ds.length k with | some j => Out.nx (ρ.set i (.own (ds.set j d))) | none => .bad) := q
        cases ej : ixN ds.length k with
        | none => rw [ej] at q; exact q.elim
        | some j =>
          rw [ej] at q
          obtain ⟨W1, k1⟩ := (S.stp s12).write (ys := xs.set j v) (es := ds.set j d) ei h1 ((h5.stp s12).set j (r.stp st2))
          exact ⟨a, xs, k, j, rfl, rz.int', h4', by rw [h5.length]; exact ej, q σ F2 _ W1 (st2.fk.trans k1)⟩
      | _ => exact q.elim
    · exact p.elim
theorem pq_ret {e : Expr} {f : Ro → Res PyData} (he : PE X e (tF K mg W f)) : PS X (.Return (some e) pos) (tS K mg W (sRet f)) := (ps_ret he).imp fun D σ H ⟨B, F0, F, ρ, S, p⟩ =>
  ⟨B, F0, F, ρ, S, PostE.of_out S p fun d _ q F' H' v st r => q v F' H' (S.out st) r⟩
theorem pq_retN : PS X (.Return none pos) (tS K mg W sRetN) := ps_retN.imp fun D σ H ⟨B, F0, F, ρ, S, p⟩ => p .non F H (S.out Stp.refl) .non
theorem pq_if {c : Expr} {a b : List Stmt} {t : Ro → Res Bool} {g h : Ro → Out} (hc : PT X c (tTs K mg W t)) (ha : PSs X a (tS K mg W g)) (hb : PSs X b (tS K mg W h)) : PS X (.If c a b pos) (tS K mg W (sIf t g h)) := (ps_if hc ha hb).imp fun D σ H ⟨B, F0, F, ρ, S, p⟩ => by
  refine ⟨B, F0, F, ρ, S, PostE.of_out S p fun k _ q F' H' st => ?_⟩
  cases k with
  | true => rw [if_pos rfl] at q ⊢; exact ⟨B, F0, F', ρ, S.stp st, q.fk st.fk⟩
  | false => rw [if_neg (by decide)] at q ⊢; exact ⟨B, F0, F', ρ, S.stp st, q.fk st.fk⟩
theorem pq_frz (is : List Nat) {st : Stmt} {g : Ro → Out} (h : PS X st (tS K mg W g)) : PS X st (tS K mg W (sFrz is g)) := h.imp fun D σ H ⟨B, F0, F, ρ, S, p⟩ => by
  obtain ⟨F', S', k⟩ := Ste.frz is S
  exact ⟨B, F0, F', frz is ρ, S', p.fk k⟩
theorem pq_for {tg iter : Expr} {body : List Stmt} {is : List Nat} {fi : Ro → Res (List PyData)} {g : PyData → Ro → Option Ro} {b : Ro → Out} (hp : PassesOwn (model X.prog X.w) X.A X.env X.xe) (hc : X.calm = true) (hi : PI X tg iter (tI K mg W false fi)) (hg : PG X tg (tTg K is g)) (hb : PSs X body (tS K mg W b))
    (hs : ∀ x, foldedSetIterable iter X.env x = pure x := by intro _; rfl) : PS X (.For tg iter body [] pos) (tS K mg W (sFor fi g b)) := (ps_for hp hc hi hg hb hs).imp fun D σ H ⟨B, F0, F, ρ, S, p⟩ => by
  refine ⟨B, F0, F, ρ, S, PostE.of_out S p fun ds _ q J F1 H1 st G => ?_⟩
  refine ⟨fun i m σ2 H2 => m = ds.length - i ∧ i ≤ ds.length ∧ ∃ (F2 : Rg) (ρ2 : Ro), Ste K B F0 F2 H2 σ2 ρ2 ∧ FK F1 H1 F2 H2 ∧ PostS K mg W B F0 F2 H2 D (forF g b (ds.drop i) ρ2), ⟨ds.length, by simp, Nat.zero_le _, F1, ρ, S.stp st, FK.refl, by simpa using q.fk st.fk⟩, ?_⟩
  rintro i m σ2 H2 ⟨rfl, hi, F2, ρ2, S2, k2, p2⟩
  have kp : Kept false F1 H1 F2 H2 := ⟨k2.sub, fun a h o e => k2.keep a (h.elim (fun z => nomatch z) id) o e⟩
  by_cases hlt : i < ds.length
  · obtain ⟨g1, g2⟩ := G.go i ds[i] F2 H2 (by simp [hlt]) kp
    refine .inr ⟨g1, fun σ3 H3 => ∃ (F3 : Rg) (ρ3 : Ro), Ste K B F0 F3 H3 σ3 ρ3 ∧ FK F1 H1 F3 H3 ∧ PostS K mg W B F0 F3 H3 D (forF g b (ds.drop (i + 1)) ρ3), fun σ' H' hh => ⟨ds.length - (i + 1), by omega, rfl, hlt, hh⟩, fun x H3 y => ?_⟩
    obtain ⟨F3, st3, rx⟩ := g2 x H3 y
    rw [List.drop_eq_getElem_cons hlt] at p2
    unfold forF at p2
    have p2 := p2.fk st3.fk
    cases eg : g ds[i] ρ2 with
    | none => rw [eg] at p2; exact p2.elim
    | some ρ3 =>
      rw [eg] at p2
      have p3 : PostS K mg W B F0 F3 H3 D (match b ρ3 with | .nx ρ2 => forF g b (ds.drop (i + 1)) ρ2 | .ct ρ2 => forF g b (ds.drop (i + 1)) ρ2 | .bk ρ2 => .nx ρ2 | o => o) := p2
      refine ⟨B, F0, F3, ρ2, ds[i], S2.stp st3, rx, ρ3, eg, fun σ4 S4 _ => ⟨B, F0, F3, ρ3, S4, ?_⟩⟩
      have kk := k2.trans st3.fk
      cases eb : b ρ3 with
      | nx ρ4 => rw [eb] at p3; exact fun σ' F' H' S' k => ⟨F', ρ4, S', kk.trans k, p3.fk k⟩
      | ct ρ4 => rw [eb] at p3; exact fun σ' F' H' S' k => ⟨F', ρ4, S', kk.trans k, p3.fk k⟩
      | bk ρ4 => rw [eb] at p3; exact p3
      | ret d => rw [eb] at p3; exact p3
      | exc c k => rw [eb] at p3; exact p3
      | bad => rw [eb] at p3; exact p3
  · have e : i = ds.length := by omega
    subst e
    rw [List.drop_length] at p2
    exact .inl ⟨G.stop F2 H2 kp, p2 σ2 F2 H2 S2 FK.refl⟩
theorem pq_while (n : Nat) {c : Expr} {body : List Stmt} {t : Ro → Res Bool} {b : Ro → Out} (hp : PassesOwn (model X.prog X.w) X.A X.env X.xe) (hc : PT X c (tTs K mg W t)) (hb : PSs X body (tS K mg W b)) : PS X (.While c body [] pos) (tS K mg W (sWhile n t b)) := (ps_while hp hc hb).imp fun D σ H ⟨B, F0, F, ρ, S, p⟩ => by
  refine ⟨fun m σ2 H2 => ∃ (F2 : Rg) (ρ2 : Ro), Ste K B F0 F2 H2 σ2 ρ2 ∧ PostS K mg W B F0 F2 H2 D (whF t b m ρ2) ∧ FK F H F2 H2, ⟨n, F, ρ, S, p, FK.refl⟩, ?_⟩
  rintro m σ2 H2 ⟨F2, ρ2, S2, p2, k2⟩
  cases m with
  | zero => exact p2.elim
  | succ m =>
    unfold whF at p2
    refine ⟨B, F0, F2, ρ2, S2, PostE.of_out S2 p2 fun k _ q F3 H3 st => ?_⟩
    cases k with
    | false => rw [if_neg (by decide)] at q ⊢; exact q σ2 F3 H3 (S2.stp st) st.fk
    | true =>
      rw [if_pos rfl] at q ⊢
      refine ⟨fun σ' H' => ∃ (F' : Rg) (ρ' : Ro), Ste K B F0 F' H' σ' ρ' ∧ PostS K mg W B F0 F' H' D (whF t b m ρ') ∧ FK F H F' H', fun σ' H' hh => ⟨m, Nat.lt_succ_self m, hh⟩, B, F0, F3, ρ2, S2.stp st, ?_⟩
      have q := q.fk st.fk
      have kk := k2.trans st.fk
      cases eb : b ρ2 with
      | nx ρ4 => rw [eb] at q; exact fun σ' F' H' S' k => ⟨F', ρ4, S', PostS.fk k q, kk.trans k⟩
      | ct ρ4 => rw [eb] at q; exact fun σ' F' H' S' k => ⟨F', ρ4, S', PostS.fk k q, kk.trans k⟩
      | bk ρ4 => rw [eb] at q; exact q
      | ret d => rw [eb] at q; exact q
      | exc c k => rw [eb] at q; exact q
      | bad => rw [eb] at q; exact q
end

/-! ### a def -/
section
variable {P : Program} {w : World} {K : PySem.W.Frag} {mg : Str → Option Value} {base : Heap}
theorem start_ste {N ps : List Str} {vs : List V} {ds : List PyData} {F : Rg} {H : Hp} (hl : vs.length = ps.length) (hN : ps.length ≤ N.length) (ht : ∀ a, F a → H a ≠ none) (r : Rps K F H vs ds) : Ste K H F F H (L2.start N vs) (ds.map .val ++ List.replicate (N.length - ps.length) .un) where
  same := Same.refl H
  reg := fun a h => .inl h
  sub := fun a h => h
  trk := ht
  len := by
    unfold L2.start
    simp only [List.length_append, List.length_map, List.length_replicate]
    rw [← r.length, hl]
  val := fun i d e => by
    by_cases hi : i < ds.length
    · rw [List.getElem?_append_left (by simpa using hi), List.getElem?_map] at e
      cases e2 : ds[i]? with
      | none => rw [e2] at e; cases e
      | some d2 =>
        rw [e2] at e
        cases e
        obtain ⟨v, h1, h2⟩ := r.get e2
        refine ⟨v, ?_, h2⟩
        unfold L2.start
        rw [List.getElem?_append_left (by rw [List.length_map, r.length]; exact hi), List.getElem?_map, h1]
        rfl
    · rw [List.getElem?_append_right (by simpa using hi), List.getElem?_replicate] at e
      split at e <;> cases e
  own := fun i es e => by
    by_cases hi : i < ds.length
    · rw [List.getElem?_append_left (by simpa using hi), List.getElem?_map] at e
      cases e2 : ds[i]? with
      | none => rw [e2] at e; cases e
      | some d2 => rw [e2] at e; cases e
    · rw [List.getElem?_append_right (by simpa using hi), List.getElem?_replicate] at e
      split at e <;> cases e
  sep := fun i j es es' a _ e => by
    by_cases hi : i < ds.length
    · rw [List.getElem?_append_left (by simpa using hi), List.getElem?_map] at e
      cases e2 : ds[i]? with
      | none => rw [e2] at e; cases e
      | some d2 => rw [e2] at e; cases e
    · rw [List.getElem?_append_right (by simpa using hi), List.getElem?_replicate] at e
      split at e <;> cases e
/-- THE RULE of a def: its body as a plain function of the slots -/
theorem fn_ok {x : Str} {st : Stmt} {f : Addr} {fd : FuncData} {N ps : List Str} {n j k : Nat} {g : Ro → Out} (Fu : Fun K x x st f fd) (S : FnScope N ps (defScope st)) (hn : ps.length = n) (hj : N.length - ps.length = j) (hle : ps.length ≤ N.length)
    (hbody : ∀ (cdv : Value) (A : Around) (outer : List Env) (s : Shared) (H : Hp) (E : XK), Room k (A.deeper (envOfC x (defScope st) s.heap.objs.size f cdv)) →
      PSs (cxOf (L2.CX P w) P w K mg base N x (defScope st) f cdv A outer s H E) (defBody st) (tS K mg (fun cls d _ H' => E cls d H') g)) : FnOk P w K mg base (L2.CX P w) (k + 1) f fd ps (spOf K mg n (mDef n j g)) := by
  refine Fu.okX S (fun vs H Q E h => h.1.trans hn.symm) fun cdv A outer s H vs Q E hr hsp => ?_
  refine ⟨_, hbody cdv A outer s H E hr, ?_⟩
  obtain ⟨hl, F, ds, ht, r, p⟩ := hsp
  have hl2 : vs.length = ps.length := hl.trans hn.symm
  refine ⟨H, F, F, _, start_ste hl2 hle ht r, ?_⟩
  rw [hj]
  unfold mDef at p
  rw [if_pos (by rw [← r.length]; exact hl)] at p
  cases eg : g (ds.map .val ++ List.replicate j .un) with
  | nx ρ' => rw [eg] at p; exact fun σ' F' H' S' k => p F' H' .non ⟨S'.sub, S'.same, fun a h => (S'.reg a h).imp id fun z => ⟨z, S'.trk a h⟩⟩ .non
  | ret d => rw [eg] at p; exact fun v F' H' s r => p F' H' v s r
  | bk ρ' => rw [eg] at p; exact p.elim
  | ct ρ' => rw [eg] at p; exact p.elim
  | exc c k => rw [eg] at p; exact fun σ' H' dx C s e1 e2 => p H' dx C s e1 e2
  | bad => rw [eg] at p; exact p.elim
end
end Pf
/-! Pf6: the program's errors: a class over ValueError whose __init__ says super().__init__(at); self.at = at. -/
namespace Pf
open PySem PySem.Spec PyProof.Rows L2

section
open PySem.W
variable {prog : Program} {w : World} {A : Around} {E : Value → Shared → Prop} {h : Heap} {g : Array GenState} {d : Drawn} {t : Nat} {os : OsState}
variable {nm q : Str} {C N : Addr} {bs bm : List Value} {hdct : Bool} {sn : List Str} {sub : List Value} {ab : Bool} {col : Option Bool} {dd : Option Addr} {k0 k1 k2 k3 k5 : Option Value}
theorem call_mwVE {u e t0 : Addr} {rest : List Value} {Q : Value → Shared → Prop}
    (hC : h.get? C = some (excClassObj nm q C N bs bm hdct sn sub ab col dd k0 k1 k2 k3 k5 "ValueError.__new__")) (he : h.get? e = some (HandSPX.excO C t0)) (hu : h.get? u = some (kxs_mw "ValueError.__init__" e)) (hrest : rest.length ≤ sizeLine)
    (hq : ∀ h' t1, (∀ b o, b ≠ e → h.get? b = some o → h'.get? b = some o) → h'.get? e = some (HandSPX.excO C t1) → Q .none ⟨h', g, d, t, os⟩) :
    wpAny (model prog w) A (call (.ref u) rest) Q E ⟨h, g, d, t, os⟩ := by
  refine wpAny_call (codeAny_of_tree ?_)
  show wpAny _ A.in1 (callAny (.ref u) ⟨rest, []⟩) _ _ _
  simp only [callAny]
  refine wpAny_bind (wpAny_load hu ?_)
  simp only [kxs_mw, show (Value.type "method-wrapper" == Value.type "method" || Value.type "method-wrapper" == Value.type "builtin_function_or_method" || Value.type "method-wrapper" == Value.type "method-wrapper") = true by decide, if_true]
  refine KFB.if_so (by decide) ?_
  refine wpAny_bind (check_bound_init F.excBase_ValueError.toExcCallFacts hC he rfl ?_)
  refine wpAny_bind (wpAny_pure (wpAny_pure ?_))
  refine ⟨Code.quiet_builtin _ (by decide +kernel), codeAny_builtin F.excBase_ValueError.initEntry ?_⟩
  rw [Around.under_plainId F.excBase_ValueError.init.plain _]
  wp_walk
  refine hq _ h.objs.size (fun b o hb ho => ?_) ?_
  · rw [Heap.get?_update_other _ _ (Ne.symm hb)]
    exact Heap.get?_push_of_some _ ho
  · rw [Heap.get?_update_self _ (Heap.get?_push_of_some _ he) rfl]
    rfl
end

/-- what the written part says of the class D with the __init__ at f (its cell at cc) -/
structure InitF (P : Program) (K : PySem.W.Frag) (mg : Str → Option Value) (qual : Str) (st : Stmt) (f : Addr) (fd : FuncData) (D cc : Addr) : Prop where
  ex : ∃ (oc : Value) (od : Option Addr) (kV doc pm : Value) (an : Option Addr) (cda : Addr) (ct : Value) (osl : Array (Option Value)) (ccl : Value) (cdd : Option Addr) (vs : Array Value) (ccs : Array (Option Value)) (file : Str) (tf : Tok),
    fd = PySem.W.ksFn "__init__" qual (defArgs st) (defBody st) (defScope st) .none kV doc pm an (.ref cda) ct cc ∧ K.lookup f = some ⟨oc, od, .func fd, osl⟩ ∧ PySem.W.codeIn K (.ref cda) qual = true ∧
      K.lookup cda = some ⟨ccl, cdd, .fields vs, ccs⟩ ∧ vs[2]? = some (.str file tf) ∧ ((P.main.file : Str) == file) = true
  kp : PySem.W.keepIn K (.ref f) = true
  cell : ∃ (cl : Value) (cld : Option Addr) (csl : Array (Option Value)), K.lookup cc = some ⟨cl, cld, .cell (some (.ref D)), csl⟩
  cls : ∃ cd, PySem.W.clsIn K D = some cd
  sup : mg "super" = none
  top : (P.main.scope.names.lookup ("super" : Str)).isSome = false
structure ExcOk (K : PySem.W.Frag) (D f C : Addr) : Prop where
  oex : OexC K C
  ini : PySem.W.findIn K (.ref C) "__init__" = some (some (.ref f))
  noat : PySem.W.findIn K (.ref C) "at" = some none
  sub : PySem.W.mroIn K C (.ref D) = some true
  sup : PySem.W.ks_superIn K C D "__init__" = some (some (.builtin "ValueError.__init__"))
  subV : PySem.W.subIn K (.ref C) (.type "ValueError") = some true
  opq : PySem.W.nsIn K cStatics "thirdparty.any" = some none
  tyI : PySem.W.typeIn K (.ref f) = some (.type "function")
def spInit (K : PySem.W.Frag) (D f : Addr) : Sp := fun vs H Q _ => ∃ (a C : Addr) (k : Int), vs = [.ref a, .int k] ∧ ExcOk K D f C ∧ H a = some (exo a C none) ∧
  ∀ d, H d = none → d ≠ a → Q .non (upd (upd H d (exd d [("at", .int k)])) a (exo a C (some d)))
/-- the scope of that __init__ -/
structure InitSc (st : Stmt) : Prop where
  kind : (defScope st).kind = .function
  co : (defScope st).isCoroutine = false
  gen : (defScope st).isGenerator = false
  self : (defScope st).names.lookup ("self" : Str) = some .local
  at_ : (defScope st).names.lookup ("at" : Str) = some .local
  kls : (defScope st).names.lookup ("__class__" : Str) = some .free
  sup : (defScope st).names.lookup ("super" : Str) = some .globalImplicit
  nocell : ∀ x ∈ (defScope st).names, x.2 ≠ .cell
  free : ∀ x, (defScope st).names.lookup x = some .free → x = ("__class__" : Str)
  par : ((defArgs st).posonlyargs ++ (defArgs st).args).head?.map (·.arg) = some ("self" : Str)
  body : ∃ (p0 p1 p2 p3 p4 p5 p6 p7 p8 p9 : Pos), defBody st = [.Expr (.Call (.Attribute (.Call (.Name "super" p0) [] [] p1) "__init__" p2) [.Name "at" p3] [] p4) p5, .Assign [.Attribute (.Name "self" p6) "at" p7] (.Name "at" p8) p9] ∧
    (∀ env : Env, ∃ pl : Sem Bool, eval (.Call (.Attribute (.Call (.Name "super" p0) [] [] p1) "__init__" p2) [.Name "at" p3] [] p4) env = (do
      let ov ← attributeBase (.Call (.Name "super" p0) [] [] p1) "__init__" env (eval (.Call (.Name "super" p0) [] [] p1) env)
      standAt p2.atName
      let (f, first) ← holding [ov] (getMethod ov "__init__" pl)
      callWith p4 f first (backTo p4 (starEach [.Name "at" p3] env)) [])) ∧ (p4.line == p5.line) = (p4.line == p5.line)

section
variable {P : Program} {w : World} {K : PySem.W.Frag} {mg : Str → Option Value} {base : Heap}
/-- the context of that def's body -/
def cxI (P : Program) (w : World) (K : PySem.W.Frag) (mg : Str → Option Value) (base : Heap) (qual : Str) (scope : Scope) (f cc : Addr) (cd : Value) (A : Around) (outer : List Env) (s : Shared) (H : Hp) (E : Value → Shared → Prop) : Cx where
  prog := P
  w := w
  K := K
  mg := mg
  base := base
  A := A.deeper (PySem.W.ksEnv qual scope s.heap.objs.size f cd cc)
  N := ["self", "at"]
  s_0 := s
  H_0 := H
  env := PySem.W.ksEnv qual scope s.heap.objs.size f cd cc
  outer := outer
  stack := PySem.W.ksEnv qual scope s.heap.objs.size f cd cc :: outer
  ex := []
  calm := true
  fn := fun _ => false
  pn := []
  xe := E
theorem init_ok {qual : Str} {st : Stmt} {f D cc : Addr} {fd : FuncData} (I : InitF P K mg qual st f fd D cc) (S : InitSc st) : FnOk P w K mg base (L2.CX P w) 1 f fd ["self", "at"] (spInit K D f) := by
  refine ⟨fun vs H Q E ⟨a, C, k, e, _⟩ => by rw [e]; rfl, fun A outer s H args us vs Q E hr e0 hb r hsp => ?_⟩
  obtain ⟨oc, od, kV, doc, pm, an, cda, ct, osl, ccl, cdd, vsc, ccs, file, tf, rfl, lkf, hcode, lkc, hvs, hfile⟩ := I.ex
  obtain ⟨cl, cld, csl, lkcell⟩ := I.cell
  obtain ⟨cdD, hclsD⟩ := I.cls
  obtain ⟨a, C, k, rfl, T, Ha, hQ⟩ := hsp
  obtain ⟨ua, uk, rfl, ra, rk⟩ := vals2 r
  obtain rfl : ua = Value.ref a := ra
  obtain ⟨tk, rfl⟩ := rk
  have KX : K.In s.heap := e0.mod.kin.keeps fun b o e => (e0.bs b o e).1
  have lim : s.heap.NoLimit := e0.mod.nolimit.keeps fun b o e => (e0.bs b o e).1
  have hcellB : base.get? cc = some ⟨cl, cld, .cell (some (.ref D)), csl⟩ := e0.mod.kin _ _ lkcell
  refine PySem.ks_codeAny_call_defAt (fd := PySem.W.ksFn "__init__" qual (defArgs st) (defBody st) (defScope st) .none kV doc pm an (.ref cda) ct cc) (body := defBody st) (binds := [("self", .ref a), ("at", .int k tk)]) hr.depth (KX _ _ lkf) rfl lim (PySem.W.codeRec_of KX hcode) rfl hb S.nocell (fun y hy => ?_) (fun h₁ hns hk => ?_) S.co S.gen S.kind
  · rcases List.mem_cons.mp hy with rfl | hy
    · exact S.self
    · rcases List.mem_cons.mp hy with rfl | hy
      · exact S.at_
      · cases hy
  -- the state at the body's start
  show _root_.PySem.wpAt (model P w) (A.deeper (PySem.W.ksEnv qual (defScope st) s.heap.objs.size f (.ref cda) cc)) (.func (defBody st) (PySem.W.ksEnv qual (defScope st) s.heap.objs.size f (.ref cda) cc)) (execs (defBody st) (PySem.W.ksEnv qual (defScope st) s.heap.objs.size f (.ref cda) cc)) _ _ _
  generalize hxe : (fun (e : Value) (s' : Shared) => wpAny (model P w) (A.deeper (callEnv (PySem.W.ksFn "__init__" qual (defArgs st) (defBody st) (defScope st) .none kV doc pm an (.ref cda) ct cc) s.heap.objs.size f)) (leaving (callEnv (PySem.W.ksFn "__init__" qual (defArgs st) (defBody st) (defScope st) .none kV doc pm an (.ref cda) ct cc) s.heap.objs.size f) e) (fun _ s'' => CR (L2.CX P w) outer P w H s Q E (.error e) s'') (fun e' s'' => CR (L2.CX P w) outer P w H s Q E (.error e') s'') s') = XE0
  have hfresh : H s.heap.objs.size = none := e0.hok.fresh (Nat.le_refl _)
  have noA : ∀ b : Addr, b ∉ ([] : List Addr) := fun b z => nomatch z
  have Ok : (cxI P w K mg base qual (defScope st) f cc (.ref cda) A outer s H XE0).Ok := by
    refine ⟨e0.mod, S.kind, rfl, rfl, Nat.le_refl _, fun x y c h1 h2 => ?_, fun x hx => ?_, (fun x c h _ => absurd (show false = true from h) Bool.false_ne_true), fun _ => hr.hd, Around.frames_deeper e0.frames, .inr ⟨rfl, rfl⟩, fun b z => absurd z (noA b), e0.bs, e0.bsz, fun b _ _ => noA b, fun b z => absurd z (noA b), e0.funs, e0.frf⟩
    · have e1 : ([("__class__", cc)] : List (Str × Addr)).lookup x = some c := h1
      have e2 : ([("__class__", cc)] : List (Str × Addr)).lookup y = some c := h2
      have key : ∀ z : Str, ([("__class__", cc)] : List (Str × Addr)).lookup z = some c → z = "__class__" := fun z h => by
        by_cases e : (z == ("__class__" : Str)) = true
        · exact eq_of_beq e
        · simp [List.lookup, e] at h
      rw [key x e1, key y e2]
    · have hx : (defScope st).names.lookup x = some .cell ∨ (defScope st).names.lookup x = some .free := hx
      rcases hx with hx | hx
      · exact absurd rfl (S.nocell _ (PySem.mem_of_lookup hx))
      · rw [S.free x hx]
        exact ⟨cc, rfl⟩
  have hm : ∀ m, h₁.Ns s.heap.objs.size m → True := fun _ _ => trivial
  have lself : ([("self", Value.ref a), ("at", Value.int k tk)] : List (Str × Value)).reverse.lookup ("self" : Str) = some (.ref a) := by rfl
  have lat : ([("self", Value.ref a), ("at", Value.int k tk)] : List (Str × Value)).reverse.lookup ("at" : Str) = some (.int k tk) := by rfl
  have I0 : Inv (cxI P w K mg base qual (defScope st) f cc (.ref cda) A outer s H XE0) [] [some (.ref a), some (.int k)] H { s with heap := h₁, toks := s.toks + 2 } := by
    refine ⟨Ok, rfl, e0.bare, Un.kept hk, ⟨_, hns, fun i x v h1 h2 h3 => ?_⟩, fun x c hc => ?_, hfresh, fun x c hc => ?_, fun p hp => absurd (show p ∈ ([] : List (Addr × Obj)) from hp) (by simp), e0.hok.kept hk, rfl⟩
    · match i with
      | 0 => cases h1; cases h2; exact ⟨.ref a, rfl, .inl ⟨S.self, lself⟩⟩
      | 1 => cases h1; cases h2; exact ⟨.int k tk, ⟨tk, rfl⟩, .inl ⟨S.at_, lat⟩⟩
      | i + 2 => simp [cxI] at h1
    · have hc' : ([("__class__", cc)] : List (Str × Addr)).lookup x = some c := hc
      by_cases e : (x == ("__class__" : Str)) = true
      · simp [List.lookup, e] at hc'
        rw [← hc']
        exact ⟨_, _, hk _ _ (e0.bs _ _ hcellB).1, rfl⟩
      · simp [List.lookup, e] at hc'
    · have hc' : ([("__class__", cc)] : List (Str × Addr)).lookup x = some c := hc
      by_cases e : (x == ("__class__" : Str)) = true
      · simp [List.lookup, e] at hc'
        rw [← hc']
        exact (e0.bs _ _ hcellB).2
      · simp [List.lookup, e] at hc'
  obtain ⟨p0, p1, p2, p3, p4, p5, p6, p7, p8, p9, hbody, heq, _⟩ := S.body
  obtain ⟨pl, heq⟩ := heq (PySem.W.ksEnv qual (defScope st) s.heap.objs.size f (.ref cda) cc)
  rw [hbody]
  refine PySem.ks_wpAt_execs_cons (PySem.ks_wpAt_Expr_any (PySem.ks_wpAt_MethodCall (pl := pl) ?_ heq) (by simp [interactive, S.kind]))
  -- super()
  obtain ⟨ar, har, hara⟩ : ∃ ar, ((defArgs st).posonlyargs ++ (defArgs st).args).head? = some ar ∧ ar.arg = ("self" : Str) := by
    have := S.par
    cases e : ((defArgs st).posonlyargs ++ (defArgs st).args).head? with
    | none => rw [e] at this; cases this
    | some ar => rw [e] at this; exact ⟨ar, rfl, Option.some.inj this⟩
  obtain ⟨oD, hD1, hD2⟩ : ∃ oD, K.lookup D = some oD ∧ oD.data = .cls cdD := by
    have hclsD := hclsD
    unfold PySem.W.clsIn at hclsD
    split at hclsD
    · rename_i c d cd' sl ho
      cases hclsD
      exact ⟨_, ho, rfl⟩
    · cases hclsD
  have X1 : K.In h₁ := fun b o e => hk _ _ (KX b o e)
  obtain ⟨t1, hoa⟩ := exo_at I0.hok Ha
  have Iat : PySem.W.InstAt h₁ a { cls := .ref C, dict := none, data := .fields #[.ref t1, .none, .none, .none, .bool false, .none] } C none := ⟨hoa, rfl, rfl, trivial⟩
  obtain ⟨mb, hb1, hb2⟩ := e0.mod.blt
  refine PySem.ks_wpAt_super_base (env := PySem.W.ksEnv qual (defScope st) s.heap.objs.size f (.ref cda) cc) S.sup S.kls (by decide) rfl (X1 _ _ lkf) rfl har rfl (X1 _ _ lkc) rfl hvs hfile I.top ?_
  refine PySem.W.ks_loadName_global S.kind S.sup (PySem.Calls.loadGlobal_builtin (env := PySem.W.ksEnv qual (defScope st) s.heap.objs.size f (.ref cda) cc) (e0.mod.glob.keeps fun b o e => hk _ _ (e0.bs b o e).1) I.sup (hb1.keeps fun b o e => hk _ _ (e0.bs b o e).1) ((hb2 _ (by decide)).trans (by decide +kernel)) ⟨rfl, ?_⟩)
  refine wpAny_loadName_free S.kind S.kls rfl ⟨_, X1 _ _ lkcell, rfl⟩ ?_
  rw [hara]
  refine wpAny_loadName_local S.kind S.self hns lself ?_
  refine PySem.ks_wpAny_isType_cls (X1 _ _ hD1) hD2 ⟨rfl, ?_⟩
  refine PySem.ks_wpAny_call_super (X1 _ _ hD1) hD2 hoa rfl (fun c e => nomatch e) (PySem.W.looks_mroIn X1 T.sub) fun h₂ hso hk2 => ?_
  -- its __init__
  have X2 : K.In h₂ := fun b o e => hk2 _ _ (X1 b o e)
  have hoa2 := hk2 _ _ hoa
  have Iat2 : PySem.W.InstAt h₂ a { cls := .ref C, dict := none, data := .fields #[.ref t1, .none, .none, .none, .bool false, .none] } C none := ⟨hoa2, rfl, rfl, trivial⟩
  obtain ⟨nm, q, N', bs', bm, sn, sub, ab, col, dd, k0, k1, k2, k3, k5, hC, hbm⟩ := T.oex.cls
  have hcl : PySem.W.clsIn K C = some { name := nm, bases := bs', mro := .ref C :: bm, ns := N', qualname := q, hasDict := true, slotNames := sn, subclasses := sub, abstract := ab, collection := col, hasDel := false } := by unfold PySem.W.clsIn; rw [hC] <;> rfl
  have hsup := T.sup
  unfold PySem.W.ks_superIn at hsup
  rw [hcl] at hsup
  refine PySem.W.kxs_getMethod PySem.W.kxs_ValueError hso (PySem.W.looks_opaque X2 T.opq) (l₀ := .ref C :: bm) (fun A Q E s k q => wpAny_bind ((PySem.W.looks_clsIn X2 hcl) A _ E s k (wpAny_pure q))) rfl X2 hsup (Iat2.type.andThen (PySem.W.looks_subIn X2 T.subV)) (PySem.W.ks_ne X2 Iat2 hcl) (by decide) ?_
  -- its call
  have hu3 : (h₂.push (PySem.W.kxs_mw "ValueError.__init__" a)).get? h₂.objs.size = some (PySem.W.kxs_mw "ValueError.__init__" a) := Heap.get?_push_size _ rfl
  have hk3 : ∀ b o, h₁.get? b = some o → (h₂.push (PySem.W.kxs_mw "ValueError.__init__" a)).get? b = some o := fun b o e => Heap.get?_push_of_some _ (hk2 _ _ e)
  have I1 : Inv (cxI P w K mg base qual (defScope st) f cc (.ref cda) A outer s H XE0) [] [some (.ref a), some (.int k)] H { s with heap := h₂.push (PySem.W.kxs_mw "ValueError.__init__" a), toks := s.toks + 2 + 1 } := I0.kept (t' := s.toks + 2 + 1) hk3
  have hlt : s.heap.objs.size < (h₂.push (PySem.W.kxs_mw "ValueError.__init__" a)).objs.size := I1.lt
  have I1p : Inv (cxI P w K mg base qual (defScope st) f cc (.ref cda) A outer s H XE0) [(h₂.objs.size, PySem.W.kxs_mw "ValueError.__init__" a)] [some (.ref a), some (.int k)] H { s with heap := h₂.push (PySem.W.kxs_mw "ValueError.__init__" a), toks := s.toks + 2 + 1 } := I1.pins_of fun p hp => by
    have ep : p = (h₂.objs.size, PySem.W.kxs_mw "ValueError.__init__" a) := by simpa using hp
    subst ep
    have lt1 : s.heap.objs.size < h₂.objs.size := by
      obtain ⟨o, _, _, ho, _⟩ := hns
      exact Heap.lt_size (hk2 _ _ ho)
    refine ⟨hu3, ?_, Nat.ne_of_gt lt1, ?_, fun v e => nomatch e⟩
    · have := (I0.kept (t' := s.toks + 2) hk2).hok.fresh (Nat.le_refl _)
      exact this
    · exact (I0.kept (t' := s.toks + 2) hk2).nofs (Nat.le_refl _)
  refine PySem.W.kxs_callWith (i := "ValueError.__init__") (x := a) (M := model P w) (by rfl) ?_
  refine PySem.Calls.evalArgs_plain ?_
  have vat : Vis (cxI P w K mg base qual (defScope st) f cc (.ref cda) A outer s H XE0).env.scope "at" := .inl S.at_
  have vself : Vis (cxI P w K mg base qual (defScope st) f cc (.ref cda) A outer s H XE0).env.scope "self" := .inl S.self
  have pat : ∀ p : Pos, PE (cxI P w K mg base qual (defScope st) f cc (.ref cda) A outer s H XE0) (.Name "at" p) (tVar 1) := fun p => pe_var (by rfl) vat
  have pself : ∀ p : Pos, PE (cxI P w K mg base qual (defScope st) f cc (.ref cda) A outer s H XE0) (.Name "self" p) (tVar 0) := fun p => pe_var (by rfl) vself
  refine thn ((pa_cons (pat p3) pa_nil).run p4 [(h₂.objs.size, PySem.W.kxs_mw "ValueError.__init__" a)] _ [some (.ref a), some (.int k)] H (fun vs H1 => vs = [.int k] ∧ H1 = H) I1p ⟨_, rfl, rfl, rfl⟩) fun us s2 ⟨vs, H1, I2, rv, ev, eH⟩ => ?_
  subst ev
  rw [eH] at I2
  obtain ⟨u1, rfl, ru⟩ := vals1 rv
  have hu2 := (I2.pin (h₂.objs.size, PySem.W.kxs_mw "ValueError.__init__" a) (List.mem_append_right _ List.mem_cons_self)).1
  obtain ⟨t2, hoa3⟩ := exo_at I2.hok Ha
  refine ⟨hu2, ?_⟩
  obtain ⟨hp2, g2, d2, tk2, os2⟩ := s2
  refine call_mwVE (I2.kIn _ _ hC) hoa3 hu2 (by rw [sizeLine_eq]; exact (by decide : (1 : Nat) ≤ 16777216)) fun h4 t4 hk4 ho4 => ?_
  have I3 : Inv (cxI P w K mg base qual (defScope st) f cc (.ref cda) A outer s H XE0) [] [some (.ref a), some (.int k)] H ⟨h4, g2, d2, tk2, os2⟩ := by
    have J := (I2.pins_of (pins' := []) fun p hp => absurd hp (by simp)).write (t' := tk2) (x := a) (e := a) (o := exo a C none) (by rw [Ha]; exact True.intro) (.inl rfl) hk4 ⟨_, ho4⟩ (exo_ok ho4)
    have eu : upd H a (exo a C none) = H := by
      funext b
      by_cases hb : b = a
      · rw [hb, upd_same, Ha]
      · rw [upd_ne hb]
    rw [eu] at J
    exact J
  -- self.at = at
  refine wpAt_of_wpAny ?_
  have q : PSs (cxI P w K mg base qual (defScope st) f cc (.ref cda) A outer s H XE0) [.Assign [.Attribute (.Name "self" p6) "at" p7] (.Name "at" p8) p9] (tOst K "at" (tVar 0) (tVar 1)) := pss_one (ps_ost (pself p6) (pat p8) (by rfl))
  refine wpAny_mono (q.run [] _ [some (.ref a), some (.int k)] H { nx := fun _ H' => Q .non H', rt := fun _ _ => False } I3 ⟨_, rfl, _, rfl, a, C, rfl, T.oex, T.noat, .inl ⟨Ha, fun d hd ne => hQ d hd ne⟩⟩) (fun fl s' hs => ?_) fun e s' hs => ?_
  · cases fl with
    | next =>
      obtain ⟨σ', H', J, q⟩ := hs
      exact ⟨.non, H', J.os, J.bare, J.base, J.hok, rfl, q⟩
    | ret u =>
      obtain ⟨_, _, _, _, _, q⟩ := hs
      exact False.elim q
    | brk =>
      obtain ⟨_, _, _, q⟩ := hs
      exact False.elim q
    | cont =>
      obtain ⟨_, _, _, q⟩ := hs
      exact False.elim q
  · exact hs
end
end Pf
/-! Pf7: raise, try. -/
namespace Pf
open PySem PySem.Spec PyProof.Rows L2

section
variable {X : Cx} {W : WX} {pos : Pos}
theorem pq_raise {x : Str} {p pos' : Pos} {C D fI : Addr} {fd : FuncData} {e : Expr} {f : Ro → Res PyData} (hc : X.calm = true) (tk : Takes X W) (T : ExcOk X.K D fI C) (F1 : FnOk X.prog X.w X.K X.mg X.base (L2.CX X.prog X.w) 1 fI fd ["self", "at"] (spInit X.K D fI)) (hr : Room 2 X.A) (hb : Binds X.K fd ["self", "at"] [])
    (hg : Gl X x) (hm : X.mg x = some (.ref C)) (he : PE X e (tB X.K X.mg W f)) (hdb : (x == ("__debug__" : Str)) = false := by decide) (hst : starEach [e] X.env = (false, eval e X.env) :: starEach [] X.env := by rfl) (hpl : (backTo pos' (starEach [] X.env)).any (·.1) = false := by rfl) :
    PS X (.Raise (some (.Call (.Name x p) [e] [] pos')) none pos) (tS X.K X.mg W (sRaise x f)) :=
  (ps_raise hc tk (pmk_oex T.oex T.ini T.tyI F1 hr hb .nil passL hg hm (pa_cons he pa_nil hst) hdb hst hpl)).imp fun D' σ H ⟨B, F0, F, ρ, S, p⟩ => by
    refine ⟨B, F0, F, ρ, S, PostE.of_out S p fun d _ q F' H' v st r => ?_⟩
    cases d with
    | int k =>
      have q : PostS X.K X.mg W B F0 F H D' (.exc x k) := q
      refine ⟨by simp, fun a ha => ⟨a, C, k, by rw [r.int']; rfl, T, upd_same, fun d hd ne => ⟨rfl, d, _, upd_same, by rw [upd_ne ne, upd_same], ?_, ?_⟩⟩⟩
      · rw [upd_ne ne] at hd; exact hd
      · refine q σ _ d C (fun b o e => ?_) upd_same hm
        have e' := st.keep _ _ (S.same b o e)
        have h1 : b ≠ a := ne_of_none e' ha
        have hd' : H' d = none := by rw [upd_ne ne] at hd; exact hd
        have h2 : b ≠ d := ne_of_none e' hd'
        rw [upd_ne h2, del_ne h1, upd_ne h1, upd_ne h2, upd_ne h1]
        exact e'
    | _ => exact q.elim
end

/-! ### try: body; except x as n: return .. (several) -/
def wManyAs (K : PySem.W.Frag) (i : Nat) (Wout : WX) (D : Ends) : List (Value × (Addr → Value → Option Addr → TS)) → WX
  | [] => Wout
  | (c, ts) :: r => fun cls d σ H => ∃ b, PySem.W.exmOne K cls c = some b ∧ (b = true → ∀ a, H a = none → ts a cls d { nx := fun σ' H' => D.nx (σ'.set i none) H', rt := D.rt, bk := fun σ' H' => D.bk (σ'.set i none) H', ct := fun σ' H' => D.ct (σ'.set i none) H' } (σ.set i (some (.ref a))) H) ∧ (b = false → wManyAs K i Wout D r cls d σ H)
inductive HdsAs (X : Cx) (n : Str) : List ExceptHandler → List (Value × (Addr → Value → Option Addr → TS)) → Prop
  | nil : HdsAs X n [] []
  | cons {x : Str} {c : Value} {ts : Addr → Value → Option Addr → TS} {b₀ : Stmt} {suite : List Stmt} {np pos' : Pos} {hds : List ExceptHandler} {l : List (Value × (Addr → Value → Option Addr → TS))} (hc : Names X x c)
      (hsu : ∀ (a : Addr) (oe : Obj) (cls : Value) (d : Option Addr) (pn : List (Addr × Obj)), Zc cls d oe → (∃ vs, oe.data = .fields vs) → PSs (X.suite a ((a, oe) :: pn)) (b₀ :: suite) (ts a cls d)) (r : HdsAs X n hds l) :
      HdsAs X n (.ExceptHandler (some (.Name x np)) (some n) (b₀ :: suite) pos' :: hds) ((c, ts) :: l)
section
variable {X : Cx} {n : Str} {i : Nat} {body : List Stmt} {h₀ : ExceptHandler} {hds : List ExceptHandler} {l : List (Value × (Addr → Value → Option Addr → TS))} {pos : Pos} {tb : WX → TS} {Wout : WX}
theorem ps_try_manyAs (hs : X.stack = X.env :: X.outer) (hf : X.env.frame = some X.env.locals) (hN : X.N.Nodup) (hi : X.N[i]? = some n) (hln : X.env.kindOf n = some .local) (tk : Takes X Wout)
    (hb : ∀ (W : WX) (pn : List (Addr × Obj)) (xe : Value → Shared → Prop), Takes (X.tr pn xe) W → PassesOwn (model X.prog X.w) X.A X.env xe → PSs (X.tr pn xe) body (tb W))
    (hh : HdsAs X n (h₀ :: hds) l) : PS X (.Try body (h₀ :: hds) [] [] pos) (fun D σ H => tb (wManyAs X.K i Wout D l) D σ H) := by
  refine ⟨fun pins s σ H D I h => ?_⟩
  have ok := I.ok
  have hloc : Loc X.env.scope n := .inl hln
  have hfr : X.A.frames = some (X.env :: X.outer) := by rw [ok.frames, hs]
  refine wpAny_Try_except ?_
  refine wpAny_mono ((hb (wManyAs X.K i Wout D l) (X.pn ++ pins) (fun e s₁ => wpAny (model X.prog X.w) X.A (noteFrame e X.env) (fun _ s₂ => wpAny (model X.prog X.w) X.A (setFlight e none) (fun _ s₃ =>
    wpAny (model X.prog X.w) X.A (handleBy e X.env (h₀ :: hds)) (SP X pins D) X.xe s₃) X.xe s₂) X.xe s₁) (fun u s' xx => ?_) PassesOwn.looking).run [] s σ H D (I.toTry _) h) (fun f s1 hsp => ?_) (fun e s1 he => he)
  · -- the catch
    obtain ⟨a, B, sI, pins', σ', H', cls, d, rfl, J', nb, up, sky, na, os, ag, w⟩ := xx
    have J : Inv X pins σ' H' sI := J'.ofTry ok
    have sky' : Sky B (X.env :: X.outer) a (Zc cls d) X.env.locals s'.heap := by rw [← hs]; exact sky
    show wpAny (model X.prog X.w) X.A (noteFrame (.ref a) X.env) _ _ _
    refine Sky.land Zc.steady hfr hf sky' fun h3 fl3 up3 => ?_
    have J3 : Inv X pins σ' H' { s' with heap := h3 } := J.landed nb fl3.1 (up.trans up3) os ag
    obtain ⟨oe3, vs3, he3, hz3, hd3⟩ := fl3.there
    have notFr : ∀ {h : Heap} {o : Obj} {vs : Array Value}, h.FunFrames B (X.env :: X.outer) → h.get? a = some o → o.data = .fields vs → a ∉ frs (X.env :: X.outer) := fun {h o vs} ff e dd hm => by
      obtain ⟨_, o', e', hnf⟩ := ff.mem hm
      rw [e] at e'; cases e'
      exact hnf _ dd
    have nfr := notFr fl3.2.2.1 he3 hd3
    have nL : a ≠ X.env.locals := fun z => nfr (List.mem_filterMap.mpr ⟨X.env, List.mem_cons_self, by rw [hf, z]⟩)
    have nF : a ∉ X.fs := fun hm => by
      obtain ⟨e, he, q⟩ := List.mem_filterMap.mp hm
      exact nfr (List.mem_filterMap.mpr ⟨e, List.mem_cons_of_mem _ he, q⟩)
    have S3 := J3.suite he3 hd3 na nL nF
    have go : ∀ {hds' : List ExceptHandler} {l' : List (Value × (Addr → Value → Option Addr → TS))}, HdsAs X n hds' l' → wManyAs X.K i Wout D l' cls d σ' H' →
        wpAny (model X.prog X.w) X.A (handleBy (.ref a) X.env hds') (SP X pins D) X.xe { s' with heap := h3 } := by
      intro hds' l' hk
      induction hk with
      | nil =>
        intro w
        refine wpAny_handleBy_nil ?_
        obtain ⟨k1, k2, k3, oe, vs, T, oT, ts', he, hz, hd, h1, hr⟩ := id fl3
        unfold PySem.passOn
        refine wpAny_bind (wpAny_field he hd h1 ?_)
        rw [if_neg (show ¬ ((Value.ref T == Value.none) = true) from by simp)]
        have fin : wpAny (model X.prog X.w) X.A (setFlight (.ref a) X.env.frame) (fun _ s4 => wpAny (model X.prog X.w) X.A (throw (.ref a) : Sem Flow) (SP X pins D) X.xe s4) X.xe { s' with heap := h3 } := by
          rw [hf]
          refine HandSPX.setFlight_upZ fl3 fun h4 hh4 up4 => wpAny_throw (tk _ _ ?_)
          exact ⟨a, B, sI, pins, σ', H', cls, d, rfl, J, nb, (up.trans up3).trans up4, .inr (.inr (by rw [hs]; exact hh4)), na, os, ag, w⟩
        first
          | exact wpAny_bind (wpAny_pure (wpAny_bind fin))
          | exact wpAny_bind fin
      | @cons x c ts b₀ suite np pos' hds2 l2 hc hsu r ih =>
        intro w
        obtain ⟨b, hb1, hyes, hno⟩ := w
        refine wpAny_handleBy_cons (codeAny_handlers_test ?_) (by intro q; cases q)
        have LT : PySem.W.Looks (model X.prog X.w) h3 (typeOf (.ref a)) cls := fun A Q E s k q => wpAny_typeOf_ref (k _ _ he3) (by rw [hz3.1]; exact q)
        have LM := PySem.W.exm_one (M := model X.prog X.w) (J3.kIn) LT hb1
        have test : ∀ {Q : Value → Shared → Prop} {E : Value → Shared → Prop}, Q c { s' with heap := h3 } → wpAny (model X.prog X.w) (X.A.mark (some (.ref a))) (eval (.Name x np) X.env) Q E { s' with heap := h3 } := fun {Q E} q => by
          obtain ⟨hg, hdbg, hm | ⟨hm, hv, hnn⟩⟩ := hc
          · exact ld_glob (X := X.suite a ((a, oe3) :: (X.pn ++ pins))) S3 hg hm q hdbg
          · exact ld_blt (X := X.suite a ((a, oe3) :: (X.pn ++ pins))) S3 hg hm hv q hnn hdbg
        refine test (LM.here ?_)
        cases b with
        | true =>
          refine codeAny_handlers_suite_as ?_
          refine HandSPX.lands_againZ fl3 fun h4 fl4 up4 => ?_
          have J4 : Inv X pins σ' H' { s' with heap := h4 } := J.landed nb fl4.1 ((up.trans up3).trans up4) os ag
          obtain ⟨oe4, vs4, he4, hz4, hd4⟩ := fl4.there
          have S4 := J4.suite he4 hd4 na nL nF
          refine store_ok (X := X.suite a ((a, oe4) :: (X.pn ++ pins))) (v := .ref a) S4 hN hi hloc rfl (fun s5 S5 => ?_) (.inr hln)
          refine wpAny_mono ((hsu a oe4 cls d (X.pn ++ pins) hz4 ⟨_, hd4⟩).run [] s5 _ H' _ S5 (hyes rfl a na)) (fun f s6 hsp => ?_) (fun _ _ z => False.elim z)
          have end_ : ∀ {σ6 : L2.St} {H6 : Hp} {Q : Shared → Prop}, Inv (X.suite a ((a, oe4) :: (X.pn ++ pins))) [] σ6 H6 s6 → (∀ s7, Inv X pins (σ6.set i none) H6 s7 → Q s7) →
              wpAny (model X.prog X.w) X.A (do bindName X.env n .none; unbindBehindTheSuite X.env n pos') (fun _ s7 => Q s7) X.xe s6 := fun {σ6 H6 Q} S6 hq => gone_ok (S6.unsuite ok) hN hi hln hq
          cases f with
          | next =>
            obtain ⟨σ6, H6, S6, q6⟩ := hsp
            exact end_ S6 fun s7 J7 => ⟨_, _, J7, q6⟩
          | brk =>
            obtain ⟨σ6, H6, S6, q6⟩ := hsp
            exact end_ S6 fun s7 J7 => ⟨_, _, J7, q6⟩
          | cont =>
            obtain ⟨σ6, H6, S6, q6⟩ := hsp
            exact end_ S6 fun s7 J7 => ⟨_, _, J7, q6⟩
          | ret u =>
            obtain ⟨v6, σ6, H6, S6, r6, q6⟩ := hsp
            exact end_ S6 fun s7 J7 => ⟨_, _, _, J7, r6, q6⟩
        | false =>
          show wpAny _ X.A (handleBy (.ref a) X.env hds2) _ _ _
          exact ih (hno rfl)
    exact go hh w
  · cases f with
    | next =>
      obtain ⟨σ', H', J', q⟩ := hsp
      exact wpAny_execs_nil ⟨σ', H', J'.ofTry ok, q⟩
    | brk =>
      obtain ⟨σ', H', J', q⟩ := hsp
      exact ⟨σ', H', J'.ofTry ok, q⟩
    | cont =>
      obtain ⟨σ', H', J', q⟩ := hsp
      exact ⟨σ', H', J'.ofTry ok, q⟩
    | ret u =>
      obtain ⟨v, σ', H', J', r, q⟩ := hsp
      exact ⟨v, σ', H', J'.ofTry ok, r, q⟩
end

/-- what a handler hands back -/
def tHd (K : PySem.W.Frag) (i : Nat) (h : Int → PyData) (a : Addr) (cls : Value) (d : Option Addr) : TS := fun D σ H => (i < σ.length → σ[i]? = some (some (.ref a))) ∧
  ∃ (C dx : Addr) (k : Int), cls = .ref C ∧ XfC K C ∧ PySem.W.findIn K (.ref C) "at" = some none ∧ d = some dx ∧ H dx = some (.xd [("at", .int k)]) ∧ ∀ v F' H', Stp (fun _ => False) H F' H' → Rp K F' H' v (h k) → D.rt v H'
/-- the handlers by their data -/
def hdTs (K : PySem.W.Frag) (i : Nat) : List (Addr × (Int → PyData)) → List (Value × (Addr → Value → Option Addr → TS))
  | [] => []
  | (C, h) :: r => (.ref C, tHd K i h) :: hdTs K i r
section
variable {X : Cx} {pos : Pos}
/-- e.at, e the caught error in slot i -/
theorem hd_at {i : Nat} {n : Str} {a : Addr} {oe : Obj} {cls : Value} {d : Option Addr} {pn : List (Addr × Obj)} {p1 p2 : Pos} {C : Addr} (hN : X.N[i]? = some n) (hv : Vis X.env.scope n) (hz : Zc cls d oe) (hf : ∃ vs, oe.data = .fields vs) (T : XfC X.K C) (hno : PySem.W.findIn X.K (.ref C) "at" = some none) (hd : (n == ("__debug__" : Str)) = false := by decide) (hcd : (n == ("__classdict__" : Str)) = false := by decide)
    (hb : attributeBase (.Name n p1) "at" X.env (eval (.Name n p1) X.env) = eval (.Name n p1) X.env := by rfl) : PE (X.suite a ((a, oe) :: pn)) (.Attribute (.Name n p1) "at" p2) (tXf a cls d C "at" (tVar i)) :=
  pe_xf (X := X) T hno hz hf (pe_var hN hv hd hcd) hb
theorem suite_at {i : Nat} {n : Str} {p1 p2 p3 : Pos} (hi : i < X.N.length) (hN : X.N[i]? = some n) (hv : Vis X.env.scope n) (hd : (n == ("__debug__" : Str)) = false := by decide) (hcd : (n == ("__classdict__" : Str)) = false := by decide)
    (hb : attributeBase (.Name n p1) "at" X.env (eval (.Name n p1) X.env) = eval (.Name n p1) X.env := by rfl) : ∀ (a : Addr) (oe : Obj) (cls : Value) (d : Option Addr) (pn : List (Addr × Obj)), Zc cls d oe → (∃ vs, oe.data = .fields vs) →
      PSs (X.suite a ((a, oe) :: pn)) [.Return (some (.Attribute (.Name n p1) "at" p2)) p3] (tHd X.K i (fun k => .int k) a cls d) := fun a oe cls d pn hz hf => by
  refine pss_one ⟨fun pins s σ H D I ⟨hσ, C, dx, k, ec, T, hno, ed, hx, hr⟩ => ?_⟩
  have hσ := hσ (by rw [I.len]; exact hi)
  refine (ps_ret (hd_at (X := X) hN hv hz hf T hno hd hcd hb)).run pins s σ H D I ?_
  exact ⟨_, hσ, rfl, ec, dx, _, .int k, ed, hx, rfl, hr _ _ _ Stp.refl (.int k)⟩
theorem suite_pair {i : Nat} {n z : Str} {p1 p2 p3 p4 p5 : Pos} {kk kt : Nat} (hi : i < X.N.length) (hN : X.N[i]? = some n) (hv : Vis X.env.scope n) (hd : (n == ("__debug__" : Str)) = false := by decide) (hcd : (n == ("__classdict__" : Str)) = false := by decide)
    (hb : attributeBase (.Name n p1) "at" X.env (eval (.Name n p1) X.env) = eval (.Name n p1) X.env := by rfl) (hst : ∀ Y : Cx, Y.env = X.env → starEach [Expr.Constant (.str z) kk p4, .Attribute (.Name n p1) "at" p2] Y.env = (false, eval (.Constant (.str z) kk p4) Y.env) :: starEach [.Attribute (.Name n p1) "at" p2] Y.env := by intro Y e; rw [e]; rfl) (hst2 : ∀ Y : Cx, Y.env = X.env → starEach [Expr.Attribute (.Name n p1) "at" p2] Y.env = (false, eval (.Attribute (.Name n p1) "at" p2) Y.env) :: starEach [] Y.env := by intro Y e; rw [e]; rfl) :
    ∀ (a : Addr) (oe : Obj) (cls : Value) (d : Option Addr) (pn : List (Addr × Obj)), Zc cls d oe → (∃ vs, oe.data = .fields vs) →
      PSs (X.suite a ((a, oe) :: pn)) [.Return (some (.Tuple [.Constant (.str z) kk p4, .Attribute (.Name n p1) "at" p2] kt p5)) p3] (tHd X.K i (fun k => .tuple [.str z, .int k]) a cls d) := fun a oe cls d pn hz hf => by
  refine pss_one ⟨fun pins s σ H D I ⟨hσ, C, dx, k, ec, T, hno, ed, hx, hr⟩ => ?_⟩
  have hσ := hσ (by rw [I.len]; exact hi)
  refine (ps_ret (pe_tup (pa_cons pe_str (pa_cons (hd_at (X := X) hN hv hz hf T hno hd hcd hb) pa_nil (hst2 _ rfl)) (hst _ rfl)))).run pins s σ H D I ?_
  refine ⟨_, hσ, rfl, ec, dx, _, .int k, ed, hx, rfl, by rw [sizeLine_eq]; exact (by decide : (2 : Nat) ≤ 16777216), fun p hp => hr _ _ _ (Stp.add hp) (Rp.newT hp (.cons (.str z) (.cons (.int k) .nil)))⟩
theorem suite_none {i : Nat} {p3 p4 : Pos} {kk : Nat} : ∀ (a : Addr) (oe : Obj) (cls : Value) (d : Option Addr) (pn : List (Addr × Obj)), Zc cls d oe → (∃ vs, oe.data = .fields vs) →
      PSs (X.suite a ((a, oe) :: pn)) [.Return (some (.Constant .none kk p4)) p3] (tHd X.K i (fun _ => .none) a cls d) := fun a oe cls d pn hz hf => by
  refine pss_one ⟨fun pins s σ H D I ⟨hσ, C, dx, k, ec, T, hno, ed, hx, hr⟩ => ?_⟩
  exact (ps_ret pe_non).run pins s σ H D I (hr _ _ _ Stp.refl .non)

/-- the handlers' classes; cs: the classes that may be raised -/
inductive HdD (X : Cx) (n : Str) (i : Nat) : List ExceptHandler → List (Str × (Int → PyData)) → List (Addr × (Int → PyData)) → Prop
  | nil : HdD X n i [] [] []
  | cons {x : Str} {C : Addr} {h : Int → PyData} {b₀ : Stmt} {suite : List Stmt} {np pos' : Pos} {hds : List ExceptHandler} {l : List (Str × (Int → PyData))} {m : List (Addr × (Int → PyData))} (hg : Gl X x) (hm : X.mg x = some (.ref C))
      (hsu : ∀ (a : Addr) (oe : Obj) (cls : Value) (d : Option Addr) (pn : List (Addr × Obj)), Zc cls d oe → (∃ vs, oe.data = .fields vs) → PSs (X.suite a ((a, oe) :: pn)) (b₀ :: suite) (tHd X.K i h a cls d)) (r : HdD X n i hds l m) (hdb : (x == ("__debug__" : Str)) = false := by decide) :
      HdD X n i (.ExceptHandler (some (.Name x np)) (some n) (b₀ :: suite) pos' :: hds) ((x, h) :: l) ((C, h) :: m)
theorem HdD.as {n : Str} {i : Nat} {hds : List ExceptHandler} {l : List (Str × (Int → PyData))} {m : List (Addr × (Int → PyData))} (h : HdD X n i hds l m) : HdsAs X n hds (hdTs X.K i m) := by
  induction h with
  | nil => exact .nil
  | cons hg hm hsu r hdb ih => exact .cons ⟨hg, hdb, .inl hm⟩ hsu ih
def sTryC (cs : List Str) (g : Ro → Out) (hs : List (Str × (Int → PyData))) : Ro → Out := fun ρ => match g ρ with
  | .exc c k => if cs.contains c = true then hdl hs c k else .bad
  | o => o
theorem pq_try {n : Str} {i : Nat} {W : WX} {cs : List Str} {body : List Stmt} {h₀ : ExceptHandler} {hds : List ExceptHandler} {l : List (Str × (Int → PyData))} {m : List (Addr × (Int → PyData))} {g : Ro → Out} (hs : X.stack = X.env :: X.outer) (hf : X.env.frame = some X.env.locals) (hN : X.N.Nodup) (hi : X.N[i]? = some n) (hln : X.env.kindOf n = some .local) (tk : Takes X W)
    (hcs : ∀ c ∈ cs, ∀ C, X.mg c = some (.ref C) → XfC X.K C ∧ PySem.W.findIn X.K (.ref C) "at" = some none ∧ ∀ x D, (∃ h, (x, h) ∈ l) → X.mg x = some (.ref D) → PySem.W.exmOne X.K (.ref C) (.ref D) = some (decide (c = x)))
    (hb : ∀ (W : WX) (pn : List (Addr × Obj)) (xe : Value → Shared → Prop), Takes (X.tr pn xe) W → PassesOwn (model X.prog X.w) X.A X.env xe → PSs (X.tr pn xe) body (tS X.K X.mg W g))
    (hh : HdD X n i (h₀ :: hds) l m) : PS X (.Try body (h₀ :: hds) [] [] pos) (tS X.K X.mg W (sTryC cs g l)) :=
  (ps_try_manyAs hs hf hN hi hln tk hb hh.as).imp fun D σ H ⟨B, F0, F, ρ, S, p⟩ => by
    refine ⟨B, F0, F, ρ, S, ?_⟩
    unfold sTryC at p
    cases eg : g ρ with
    | nx ρ' => rw [eg] at p; exact p
    | bk ρ' => rw [eg] at p; exact p
    | ct ρ' => rw [eg] at p; exact p
    | ret d => rw [eg] at p; exact p
    | bad => rw [eg] at p; exact p
    | exc c k =>
      rw [eg] at p
      have p : PostS X.K X.mg W B F0 F H D (if cs.contains c = true then hdl l c k else .bad) := p
      intro σ' H' dx C hB hx hm
      split at p
      · rename_i hc
        obtain ⟨hXf, hat, hex⟩ := hcs c (by simpa using hc) C hm
        clear eg hb tk
        have key : ∀ {hds : List ExceptHandler} {l' : List (Str × (Int → PyData))} {m' : List (Addr × (Int → PyData))}, HdD X n i hds l' m' → (∀ x h, (x, h) ∈ l' → (x, h) ∈ l) → PostS X.K X.mg W B F0 F H D (hdl l' c k) → wManyAs X.K i W D (hdTs X.K i m') (.ref C) (some dx) σ' H' := by
          intro hds l' m' hk
          induction hk with
          | nil => exact fun _ p => p σ' H' dx C hB hx hm
          | @cons x D' h b₀ suite np pos' hds l2 m2 hg hm2 hsu r hdb ih =>
            intro hsub p
            refine ⟨decide (c = x), hex x D' ⟨h, hsub x h (List.mem_cons_self ..)⟩ hm2, fun e a ha => ?_, fun e => ?_⟩
            · have e : c = x := of_decide_eq_true e
              unfold hdl at p
              rw [if_pos e] at p
              refine ⟨fun hl => List.getElem?_set_self (by simpa using hl), C, dx, k, rfl, hXf, hat, rfl, hx, fun v F' H2 st r => ?_⟩
              refine p v (fun b => F0 b ∨ F' b) H2 ⟨fun b h => .inl h, hB.trans st.keep, fun b h => h.imp id fun z => ?_⟩ (r.fk ⟨fun _ h => .inr h, fun _ _ _ h => h⟩)
              rcases st.new b z with q | q
              · exact q.elim
              · exact ⟨hB.free q.1, q.2⟩
            · have e : ¬ c = x := of_decide_eq_false e
              unfold hdl at p
              rw [if_neg e] at p
              exact ih (fun x h hm => hsub x h (List.mem_cons_of_mem _ hm)) p
        exact key hh (fun _ _ h => h) p
      · exact p.elim
end
end Pf
/-! Pf8: the greatest, the least of a list of data; sorted(set(..)); stars. -/
namespace Pf
open PySem PySem.Spec PyProof.Rows L2

/-! ### max, min over data that are read -/
section
variable {prog : Program} {w : World} {A : Around} {R : Result → Shared → Prop} {E : Value → Shared → Prop} {I : Addr} {fp wr : List Addr} {n : Nat} {P : Nat → Value → Prop} {St : Nat → Heap → Prop} {h0 : Heap}
def CmpAt (prog : Program) (w : World) (A : Around) (op : CmpOp) (h0 : Heap) (P : Nat → Value → Prop) (bt : Nat → Nat → Bool) : Prop :=
  ∀ (i j : Nat) (vi vj : Value) (s : Shared) (Q : Value → Shared → Prop) (E : Value → Shared → Prop), (∀ b o, h0.get? b = some o → s.heap.get? b = some o) → P i vi → P j vj → Q (.bool (bt i j)) s → wpAny (model prog w) A (richCompare op vi vj) Q E s

theorem max_loopA (W : Walks prog w A.in1 I fp wr n P St) (bt : Nat → Nat → Bool) (hcmp : CmpAt prog w A.in1 .Gt h0 P bt) (S : Addr) (hSf : S ∉ fp) (hS0 : h0.get? S = none) (hw0 : ∀ b ∈ wr, h0.get? b = none) :
    ∀ (k j : Nat) (s : Shared) (vb : Value) (c : Nat), n - (j + 1) = k → j + 1 ≤ n → St (j + 1) s.heap → P (argBest bt j) vb → (∀ b o, h0.get? b = some o → s.heap.get? b = some o) →
    s.heap.get? S = some { cls := .type "list", dict := none, data := .seq #[vb, vb] c, slots := #[] } →
    (∀ v h' tk, P (argBest bt (n - 1)) v → (∀ b o, b ∉ wr → b ≠ S → s.heap.get? b = some o → h'.get? b = some o) → R (.ok (.ret v)) { s with heap := h', toks := tk }) →
    codeAny (model prog w) A (.builtin "max.loop" ⟨[.ref I, .none, .ref S], []⟩) R s := by
  have hSw : S ∉ wr := fun h => hSf (W.sub _ h)
  have hname : (toString "max" ++ toString ".loop" : String) = "max.loop" := by decide
  have nw : ∀ {b : Addr} {o : Obj}, h0.get? b = some o → b ∉ wr := fun {b o} e hb => by rw [hw0 b hb] at e; cases e
  have nS : ∀ {b : Addr} {o : Obj}, h0.get? b = some o → b ≠ S := fun {b o} e hb => by rw [hb, hS0] at e; cases e
  intro k
  induction k with
  | zero =>
    intro j s vb c hk hj hst hPb kp hS hR
    have hin : j + 1 = n := by omega
    refine codeAny_builtin F.entry_max_loop ?_
    rw [Around.under_plainId F.plain_max_loop _]
    show wpAny _ A.in1 (seqItems? (.ref S) >>= _) _ _ s
    refine wpAny_bind (wpAny_seqItems hS rfl ?_)
    show wpAny _ A.in1 (tryCatch (pyNext (.ref I)) _ >>= _) _ _ s
    refine wpAny_bind (wpAny_tryCatch (W.done s _ _ (hin ▸ hst) fun h' tk hk' => ?_))
    have hS' := hk' S _ hSw hS
    show wpAny _ A.in1 (updateSeq S (fun _ => #[]) >>= _) _ _ _
    refine wpAny_bind ?_
    refine wpAny_updateSeq hS' rfl (wpAny_bind (wpAny_letGo (wpAny_pure ?_)))
    refine hR vb _ tk (by rw [← hin]; exact hPb) fun b o hbw hbS e => (Heap.get?_update_other _ _ (Ne.symm hbS)).trans (hk' b o hbw e)
  | succ k ih =>
    intro j s vb c hk hj hst hPb kp hS hR
    have hlt : j + 1 < n := by omega
    refine codeAny_builtin F.entry_max_loop ?_
    rw [Around.under_plainId F.plain_max_loop _]
    show wpAny _ A.in1 (seqItems? (.ref S) >>= _) _ _ s
    refine wpAny_bind (wpAny_seqItems hS rfl ?_)
    show wpAny _ A.in1 (tryCatch (pyNext (.ref I)) _ >>= _) _ _ s
    refine wpAny_bind (wpAny_tryCatch (W.item (j + 1) s _ _ hlt hst fun v h' tk hP hst' hk' => ?_))
    have hS' := hk' S _ hSw hS
    have kp' : ∀ b o, h0.get? b = some o → h'.get? b = some o := fun b o e => hk' b o (nw e) (kp b o e)
    show wpAny _ A.in1 (tryCatch (holding [v, v] (richCompare .Gt v vb >>= _)) _ >>= _) _ _ _
    refine wpAny_bind (wpAny_tryCatch (wpAny_holding (wpAny_bind (hcmp (j + 1) (argBest bt j) v vb _ _ _ kp' hP hPb ?_))))
    refine wpAny_bind (wpAny_holding (wpAny_truthy_bool ?_))
    refine wpAny_bind (wpAny_letGo (wpAny_pure ?_))
    cases hb : bt (j + 1) (argBest bt j) with
    | true =>
      simp only [if_true]
      refine wpAny_bind ?_
      refine wpAny_updateSeq hS' rfl (wpAny_bind (wpAny_letGo ?_))
      rw [hname]
      refine wpAny_pure ⟨plainId_quiet F.plain_max_loop _, ih (j + 1) _ v _ (by omega) hlt (W.frame _ _ _ hst' fun b hbf o e => ?_) (by simp only [argBest, hb, if_true]; exact hP) (fun b o e => ?_) (Heap.get?_update_self _ hS' rfl)
        fun v' h'' tk'' hP' hk'' => ?_⟩
      · exact (Heap.get?_update_other _ _ (fun h : S = b => hSf (by rw [h]; exact hbf))).trans e
      · exact (Heap.get?_update_other _ _ (Ne.symm (nS e))).trans (kp' b o e)
      · exact hR v' h'' tk'' hP' fun b o hbw hbS e => hk'' b o hbw hbS ((Heap.get?_update_other _ _ (Ne.symm hbS)).trans (hk' b o hbw e))
    | false =>
      simp only [Bool.false_eq_true, if_false]
      refine wpAny_bind (wpAny_letGo ?_)
      rw [hname]
      refine wpAny_pure ⟨plainId_quiet F.plain_max_loop _, ih (j + 1) _ vb c (by omega) hlt hst' (by simp only [argBest, hb, Bool.false_eq_true, if_false]; exact hPb) kp' hS' fun v' h'' tk'' hP' hk'' => ?_⟩
      exact hR v' h'' tk'' hP' fun b o hbw hbS e => hk'' b o hbw hbS (hk' b o hbw e)
theorem max_loop0 (W : Walks prog w A.in1 I fp wr n P St) (bt : Nat → Nat → Bool) (hcmp : CmpAt prog w A.in1 .Gt h0 P bt) (S : Addr) (hSf : S ∉ fp) (hS0 : h0.get? S = none) (hw0 : ∀ b ∈ wr, h0.get? b = none) (hn : 0 < n) {s : Shared} {c : Nat} (hst : St 0 s.heap)
    (kp : ∀ b o, h0.get? b = some o → s.heap.get? b = some o) (hS : s.heap.get? S = some { cls := .type "list", dict := none, data := .seq #[] c, slots := #[] })
    (hR : ∀ v h' tk, P (argBest bt (n - 1)) v → (∀ b o, b ∉ wr → b ≠ S → s.heap.get? b = some o → h'.get? b = some o) → R (.ok (.ret v)) { s with heap := h', toks := tk }) :
    codeAny (model prog w) A (.builtin "max.loop" ⟨[.ref I, .none, .ref S], []⟩) R s := by
  have hSw : S ∉ wr := fun h => hSf (W.sub _ h)
  have hname : (toString "max" ++ toString ".loop" : String) = "max.loop" := by decide
  have nw : ∀ {b : Addr} {o : Obj}, h0.get? b = some o → b ∉ wr := fun {b o} e hb => by rw [hw0 b hb] at e; cases e
  have nS : ∀ {b : Addr} {o : Obj}, h0.get? b = some o → b ≠ S := fun {b o} e hb => by rw [hb, hS0] at e; cases e
  refine codeAny_builtin F.entry_max_loop ?_
  rw [Around.under_plainId F.plain_max_loop _]
  show wpAny _ A.in1 (seqItems? (.ref S) >>= _) _ _ s
  refine wpAny_bind (wpAny_seqItems hS rfl ?_)
  show wpAny _ A.in1 (tryCatch (pyNext (.ref I)) _ >>= _) _ _ s
  refine wpAny_bind (wpAny_tryCatch (W.item 0 s _ _ hn hst fun v h' tk hP hst' hk' => ?_))
  have hS' := hk' S _ hSw hS
  have kp' : ∀ b o, h0.get? b = some o → h'.get? b = some o := fun b o e => hk' b o (nw e) (kp b o e)
  show wpAny _ A.in1 (updateSeq S (fun _ => #[v, v]) >>= _) _ _ _
  refine wpAny_bind ?_
  refine wpAny_updateSeq hS' rfl ?_
  rw [hname]
  refine wpAny_pure ⟨plainId_quiet F.plain_max_loop _, max_loopA (h0 := h0) W bt hcmp S hSf hS0 hw0 _ 0 _ v _ rfl hn (W.frame _ _ _ hst' fun b hbf o e => ?_) hP (fun b o e => ?_) (Heap.get?_update_self _ hS' rfl) fun v' h'' tk'' hP' hk'' => ?_⟩
  · exact (Heap.get?_update_other _ _ (fun h : S = b => hSf (by rw [h]; exact hbf))).trans e
  · exact (Heap.get?_update_other _ _ (Ne.symm (nS e))).trans (kp' b o e)
  · exact hR v' h'' tk'' hP' fun b o hbw hbS e => hk'' b o hbw hbS ((Heap.get?_update_other _ _ (Ne.symm hbS)).trans (hk' b o hbw e))
theorem call_maxA {s : Shared} {x : Value} {Q : Value → Shared → Prop}
    (h : wpAny (model prog w) A.in1 (pyIter x) (fun it s₂ => ∃ I fp wr n P St bt, it = .ref I ∧ Walks prog w A.in1 I fp wr n P St ∧ St 0 s₂.heap ∧ (∀ b ∈ fp, b < s₂.heap.objs.size) ∧ 0 < n ∧ CmpAt prog w A.in1 .Gt s.heap P bt ∧
      (∀ b o, s.heap.get? b = some o → s₂.heap.get? b = some o) ∧ (∀ b ∈ wr, s.heap.get? b = none) ∧
      ∀ v h' tk, P (argBest bt (n - 1)) v → (∀ b o, b ∉ wr → s₂.heap.get? b = some o → h'.get? b = some o) → Q v { s₂ with heap := h', toks := tk }) E s) :
    wpAny (model prog w) A (call (.builtin "max") [x]) Q E s := by
  have hname : (toString "max" ++ toString ".loop" : String) = "max.loop" := by decide
  refine call_function_tree F.kind_max F.plain_max F.entry_max (F.args_max1 _) ?_
  show wpAny _ A.in1 (Builtin.Builtins.bindParams "max" ["key", "default"] 0 ⟨[], []⟩ >>= _) _ _ s
  refine wpAny_bind (wpAny_of_eq (show Builtin.Builtins.bindParams "max" ["key", "default"] 0 ⟨[], []⟩ = pure [none, none] from rfl) ?_)
  refine wpAny_bind (wpAny_pure ?_)
  refine wpAny_bind (wpAny_mono h (fun it s₂ h₂ => ?_) fun _ _ e => e)
  obtain ⟨I, fp, wr, n, P, St, bt, rfl, W, hst, hfp, hn, hcmp, kp, hw0, hQ⟩ := h₂
  refine wpAny_bind (wpAny_newObj_type ?_)
  have hSf : s₂.heap.objs.size ∉ fp := fun hm => Nat.lt_irrefl _ (hfp _ hm)
  have hS0 : s.heap.get? s₂.heap.objs.size = none := by
    cases e : s.heap.get? s₂.heap.objs.size with
    | none => rfl
    | some o => exact absurd (Heap.lt_size (kp _ _ e)) (Nat.lt_irrefl _)
  rw [hname]
  refine wpAny_pure ⟨plainId_quiet F.plain_max_loop _, max_loop0 (h0 := s.heap) W bt hcmp s₂.heap.objs.size hSf hS0 hw0 hn (W.frame _ _ _ hst fun b _ o e => Heap.get?_push_of_some _ e) (fun b o e => Heap.get?_push_of_some _ (kp b o e)) (Heap.get?_push_size _ rfl) fun v h' tk hP hk => ?_⟩
  exact hQ v h' tk hP fun b o hbw e => hk b o hbw (Nat.ne_of_lt (Heap.lt_size e)) (Heap.get?_push_of_some _ e)

theorem min_loopA (W : Walks prog w A.in1 I fp wr n P St) (bt : Nat → Nat → Bool) (hcmp : CmpAt prog w A.in1 .Lt h0 P bt) (S : Addr) (hSf : S ∉ fp) (hS0 : h0.get? S = none) (hw0 : ∀ b ∈ wr, h0.get? b = none) :
    ∀ (k j : Nat) (s : Shared) (vb : Value) (c : Nat), n - (j + 1) = k → j + 1 ≤ n → St (j + 1) s.heap → P (argBest bt j) vb → (∀ b o, h0.get? b = some o → s.heap.get? b = some o) →
    s.heap.get? S = some { cls := .type "list", dict := none, data := .seq #[vb, vb] c, slots := #[] } →
    (∀ v h' tk, P (argBest bt (n - 1)) v → (∀ b o, b ∉ wr → b ≠ S → s.heap.get? b = some o → h'.get? b = some o) → R (.ok (.ret v)) { s with heap := h', toks := tk }) →
    codeAny (model prog w) A (.builtin "min.loop" ⟨[.ref I, .none, .ref S], []⟩) R s := by
  have hSw : S ∉ wr := fun h => hSf (W.sub _ h)
  have hname : (toString "min" ++ toString ".loop" : String) = "min.loop" := by decide
  have nw : ∀ {b : Addr} {o : Obj}, h0.get? b = some o → b ∉ wr := fun {b o} e hb => by rw [hw0 b hb] at e; cases e
  have nS : ∀ {b : Addr} {o : Obj}, h0.get? b = some o → b ≠ S := fun {b o} e hb => by rw [hb, hS0] at e; cases e
  intro k
  induction k with
  | zero =>
    intro j s vb c hk hj hst hPb kp hS hR
    have hin : j + 1 = n := by omega
    refine codeAny_builtin F.entry_min_loop ?_
    rw [Around.under_plainId F.plain_min_loop _]
    show wpAny _ A.in1 (seqItems? (.ref S) >>= _) _ _ s
    refine wpAny_bind (wpAny_seqItems hS rfl ?_)
    show wpAny _ A.in1 (tryCatch (pyNext (.ref I)) _ >>= _) _ _ s
    refine wpAny_bind (wpAny_tryCatch (W.done s _ _ (hin ▸ hst) fun h' tk hk' => ?_))
    have hS' := hk' S _ hSw hS
    show wpAny _ A.in1 (updateSeq S (fun _ => #[]) >>= _) _ _ _
    refine wpAny_bind ?_
    refine wpAny_updateSeq hS' rfl (wpAny_bind (wpAny_letGo (wpAny_pure ?_)))
    refine hR vb _ tk (by rw [← hin]; exact hPb) fun b o hbw hbS e => (Heap.get?_update_other _ _ (Ne.symm hbS)).trans (hk' b o hbw e)
  | succ k ih =>
    intro j s vb c hk hj hst hPb kp hS hR
    have hlt : j + 1 < n := by omega
    refine codeAny_builtin F.entry_min_loop ?_
    rw [Around.under_plainId F.plain_min_loop _]
    show wpAny _ A.in1 (seqItems? (.ref S) >>= _) _ _ s
    refine wpAny_bind (wpAny_seqItems hS rfl ?_)
    show wpAny _ A.in1 (tryCatch (pyNext (.ref I)) _ >>= _) _ _ s
    refine wpAny_bind (wpAny_tryCatch (W.item (j + 1) s _ _ hlt hst fun v h' tk hP hst' hk' => ?_))
    have hS' := hk' S _ hSw hS
    have kp' : ∀ b o, h0.get? b = some o → h'.get? b = some o := fun b o e => hk' b o (nw e) (kp b o e)
    show wpAny _ A.in1 (tryCatch (holding [v, v] (richCompare .Lt v vb >>= _)) _ >>= _) _ _ _
    refine wpAny_bind (wpAny_tryCatch (wpAny_holding (wpAny_bind (hcmp (j + 1) (argBest bt j) v vb _ _ _ kp' hP hPb ?_))))
    refine wpAny_bind (wpAny_holding (wpAny_truthy_bool ?_))
    refine wpAny_bind (wpAny_letGo (wpAny_pure ?_))
    cases hb : bt (j + 1) (argBest bt j) with
    | true =>
      simp only [if_true]
      refine wpAny_bind ?_
      refine wpAny_updateSeq hS' rfl (wpAny_bind (wpAny_letGo ?_))
      rw [hname]
      refine wpAny_pure ⟨plainId_quiet F.plain_min_loop _, ih (j + 1) _ v _ (by omega) hlt (W.frame _ _ _ hst' fun b hbf o e => ?_) (by simp only [argBest, hb, if_true]; exact hP) (fun b o e => ?_) (Heap.get?_update_self _ hS' rfl)
        fun v' h'' tk'' hP' hk'' => ?_⟩
      · exact (Heap.get?_update_other _ _ (fun h : S = b => hSf (by rw [h]; exact hbf))).trans e
      · exact (Heap.get?_update_other _ _ (Ne.symm (nS e))).trans (kp' b o e)
      · exact hR v' h'' tk'' hP' fun b o hbw hbS e => hk'' b o hbw hbS ((Heap.get?_update_other _ _ (Ne.symm hbS)).trans (hk' b o hbw e))
    | false =>
      simp only [Bool.false_eq_true, if_false]
      refine wpAny_bind (wpAny_letGo ?_)
      rw [hname]
      refine wpAny_pure ⟨plainId_quiet F.plain_min_loop _, ih (j + 1) _ vb c (by omega) hlt hst' (by simp only [argBest, hb, Bool.false_eq_true, if_false]; exact hPb) kp' hS' fun v' h'' tk'' hP' hk'' => ?_⟩
      exact hR v' h'' tk'' hP' fun b o hbw hbS e => hk'' b o hbw hbS (hk' b o hbw e)
theorem min_loop0 (W : Walks prog w A.in1 I fp wr n P St) (bt : Nat → Nat → Bool) (hcmp : CmpAt prog w A.in1 .Lt h0 P bt) (S : Addr) (hSf : S ∉ fp) (hS0 : h0.get? S = none) (hw0 : ∀ b ∈ wr, h0.get? b = none) (hn : 0 < n) {s : Shared} {c : Nat} (hst : St 0 s.heap)
    (kp : ∀ b o, h0.get? b = some o → s.heap.get? b = some o) (hS : s.heap.get? S = some { cls := .type "list", dict := none, data := .seq #[] c, slots := #[] })
    (hR : ∀ v h' tk, P (argBest bt (n - 1)) v → (∀ b o, b ∉ wr → b ≠ S → s.heap.get? b = some o → h'.get? b = some o) → R (.ok (.ret v)) { s with heap := h', toks := tk }) :
    codeAny (model prog w) A (.builtin "min.loop" ⟨[.ref I, .none, .ref S], []⟩) R s := by
  have hSw : S ∉ wr := fun h => hSf (W.sub _ h)
  have hname : (toString "min" ++ toString ".loop" : String) = "min.loop" := by decide
  have nw : ∀ {b : Addr} {o : Obj}, h0.get? b = some o → b ∉ wr := fun {b o} e hb => by rw [hw0 b hb] at e; cases e
  have nS : ∀ {b : Addr} {o : Obj}, h0.get? b = some o → b ≠ S := fun {b o} e hb => by rw [hb, hS0] at e; cases e
  refine codeAny_builtin F.entry_min_loop ?_
  rw [Around.under_plainId F.plain_min_loop _]
  show wpAny _ A.in1 (seqItems? (.ref S) >>= _) _ _ s
  refine wpAny_bind (wpAny_seqItems hS rfl ?_)
  show wpAny _ A.in1 (tryCatch (pyNext (.ref I)) _ >>= _) _ _ s
  refine wpAny_bind (wpAny_tryCatch (W.item 0 s _ _ hn hst fun v h' tk hP hst' hk' => ?_))
  have hS' := hk' S _ hSw hS
  have kp' : ∀ b o, h0.get? b = some o → h'.get? b = some o := fun b o e => hk' b o (nw e) (kp b o e)
  show wpAny _ A.in1 (updateSeq S (fun _ => #[v, v]) >>= _) _ _ _
  refine wpAny_bind ?_
  refine wpAny_updateSeq hS' rfl ?_
  rw [hname]
  refine wpAny_pure ⟨plainId_quiet F.plain_min_loop _, min_loopA (h0 := h0) W bt hcmp S hSf hS0 hw0 _ 0 _ v _ rfl hn (W.frame _ _ _ hst' fun b hbf o e => ?_) hP (fun b o e => ?_) (Heap.get?_update_self _ hS' rfl) fun v' h'' tk'' hP' hk'' => ?_⟩
  · exact (Heap.get?_update_other _ _ (fun h : S = b => hSf (by rw [h]; exact hbf))).trans e
  · exact (Heap.get?_update_other _ _ (Ne.symm (nS e))).trans (kp' b o e)
  · exact hR v' h'' tk'' hP' fun b o hbw hbS e => hk'' b o hbw hbS ((Heap.get?_update_other _ _ (Ne.symm hbS)).trans (hk' b o hbw e))
theorem call_minA {s : Shared} {x : Value} {Q : Value → Shared → Prop}
    (h : wpAny (model prog w) A.in1 (pyIter x) (fun it s₂ => ∃ I fp wr n P St bt, it = .ref I ∧ Walks prog w A.in1 I fp wr n P St ∧ St 0 s₂.heap ∧ (∀ b ∈ fp, b < s₂.heap.objs.size) ∧ 0 < n ∧ CmpAt prog w A.in1 .Lt s.heap P bt ∧
      (∀ b o, s.heap.get? b = some o → s₂.heap.get? b = some o) ∧ (∀ b ∈ wr, s.heap.get? b = none) ∧
      ∀ v h' tk, P (argBest bt (n - 1)) v → (∀ b o, b ∉ wr → s₂.heap.get? b = some o → h'.get? b = some o) → Q v { s₂ with heap := h', toks := tk }) E s) :
    wpAny (model prog w) A (call (.builtin "min") [x]) Q E s := by
  have hname : (toString "min" ++ toString ".loop" : String) = "min.loop" := by decide
  refine call_function_tree F.kind_min F.plain_min F.entry_min (F.args_min1 _) ?_
  show wpAny _ A.in1 (Builtin.Builtins.bindParams "min" ["key", "default"] 0 ⟨[], []⟩ >>= _) _ _ s
  refine wpAny_bind (wpAny_of_eq (show Builtin.Builtins.bindParams "min" ["key", "default"] 0 ⟨[], []⟩ = pure [none, none] from rfl) ?_)
  refine wpAny_bind (wpAny_pure ?_)
  refine wpAny_bind (wpAny_mono h (fun it s₂ h₂ => ?_) fun _ _ e => e)
  obtain ⟨I, fp, wr, n, P, St, bt, rfl, W, hst, hfp, hn, hcmp, kp, hw0, hQ⟩ := h₂
  refine wpAny_bind (wpAny_newObj_type ?_)
  have hSf : s₂.heap.objs.size ∉ fp := fun hm => Nat.lt_irrefl _ (hfp _ hm)
  have hS0 : s.heap.get? s₂.heap.objs.size = none := by
    cases e : s.heap.get? s₂.heap.objs.size with
    | none => rfl
    | some o => exact absurd (Heap.lt_size (kp _ _ e)) (Nat.lt_irrefl _)
  rw [hname]
  refine wpAny_pure ⟨plainId_quiet F.plain_min_loop _, min_loop0 (h0 := s.heap) W bt hcmp s₂.heap.objs.size hSf hS0 hw0 hn (W.frame _ _ _ hst fun b _ o e => Heap.get?_push_of_some _ e) (fun b o e => Heap.get?_push_of_some _ (kp b o e)) (Heap.get?_push_size _ rfl) fun v h' tk hP hk => ?_⟩
  exact hQ v h' tk hP fun b o hbw e => hk b o hbw (Nat.ne_of_lt (Heap.lt_size e)) (Heap.get?_push_of_some _ e)

end


/-- the place of the best: later ones only if better -/
def okCmp (ds : List PyData) : Bool := ds.all (fun a => ds.all (fun b => PySem.W.alike a b) && SeqAt.shaped a && !isNo a)
def maxTD : List PyData → Option PyData
  | [.list ds] => if okCmp ds = true ∧ ds.length ≤ 16777216 then ds[argBest (fun i j => PySem.W.dataLt (ds.getD j .none) (ds.getD i .none)) (ds.length - 1)]? else none
  | _ => none
def minTD : List PyData → Option PyData
  | [.list ds] => if okCmp ds = true ∧ ds.length ≤ 16777216 then ds[argBest (fun i j => PySem.W.dataLt (ds.getD i .none) (ds.getD j .none)) (ds.length - 1)]? else none
  | _ => none
def rMaxT (K : PySem.W.Frag) : List V → Hp → VK → Prop := fun vs H Q => ∃ (a : Addr) (xs : List V) (ds : List PyData), vs = [.ref a] ∧ SqL K H a xs ∧ DpAll K H xs ds ∧ okCmp ds = true ∧ 0 < ds.length ∧
  ∀ x, xs[argBest (fun i j => PySem.W.dataLt (ds.getD j .none) (ds.getD i .none)) (ds.length - 1)]? = some x → Q x H
def rMinT (K : PySem.W.Frag) : List V → Hp → VK → Prop := fun vs H Q => ∃ (a : Addr) (xs : List V) (ds : List PyData), vs = [.ref a] ∧ SqL K H a xs ∧ DpAll K H xs ds ∧ okCmp ds = true ∧ 0 < ds.length ∧
  ∀ x, xs[argBest (fun i j => PySem.W.dataLt (ds.getD i .none) (ds.getD j .none)) (ds.length - 1)]? = some x → Q x H
theorem _root_.L2.DpAll.at' {K : PySem.W.Frag} {H : Hp} : ∀ {xs : List V} {ds : List PyData} {i : Nat} {x : V}, DpAll K H xs ds → xs[i]? = some x → ∃ d, ds[i]? = some d ∧ Dp K H x d
  | _, _, _, _, .nil, e => by simp at e
  | _, _, 0, _, .cons a b, e => by simp at e; subst e; exact ⟨_, rfl, a⟩
  | _, _, i + 1, _, .cons a b, e => by
    have := L2.DpAll.at' (i := i) b (by simpa using e)
    simpa using this
theorem _root_.L2.DpAll.len' {K : PySem.W.Frag} {H : Hp} : ∀ {xs : List V} {ds : List PyData}, DpAll K H xs ds → xs.length = ds.length
  | _, _, .nil => rfl
  | _, _, .cons a b => by simp [L2.DpAll.len' b]
theorem vals_right : ∀ {xs : List V} {us : List Value} {i : Nat} {u : Value}, Vals xs us → us[i]? = some u → ∃ x, xs[i]? = some x ∧ RelV x u
  | _, _, _, _, .nil, e => by simp at e
  | _, _, 0, _, .cons a b, e => by simp at e; subst e; exact ⟨_, rfl, a⟩
  | _, _, i + 1, _, .cons a b, e => by
    have := vals_right (i := i) b (by simpa using e)
    simpa using this
theorem argBest_le (bt : Nat → Nat → Bool) : ∀ k, argBest bt k ≤ k
  | 0 => Nat.le_refl _
  | k + 1 => by
    unfold argBest
    split
    · exact Nat.le_refl _
    · exact Nat.le_succ_of_le (argBest_le bt k)
theorem okCmp_at {ds : List PyData} (h : okCmp ds = true) {a b : PyData} (ha : a ∈ ds) (hb : b ∈ ds) : PySem.W.alike a b = true ∧ SeqAt.shaped a = true ∧ a ≠ .none := by
  have h1 := List.all_eq_true.mp h a ha
  simp only [Bool.and_eq_true] at h1
  refine ⟨List.all_eq_true.mp h1.1.1 b hb, h1.1.2, fun e => ?_⟩
  subst e
  have := h1.2
  simp [isNo] at this
section
variable {X : Cx}

theorem cr_maxT (hc : X.calm = true) (hu : X.A.units + 66 < cLine) : CallR X (.builtin "max") (rMaxT X.K) := by
  intro pins s σ H vs us Q I r h
  obtain ⟨a, xs, ds, rfl, hs, hd, hok, hne, q⟩ := h
  obtain ⟨its, rv, hl, hz⟩ := I.list hs
  have hlen := rv.length
  have hlen2 := hd.len'
  rw [Vals.ref1 r]
  refine call_maxA (iter_anyList hl.isList fun s₂ e st hfp hlI => ?_)
  subst e
  refine ⟨_, _, _, _, _, _, (fun i j => PySem.W.dataLt (ds.getD j .none) (ds.getD i .none)), rfl, Walks.list (A := X.A.in1) (I.ok.hd hc) _ a hlI its.toArray, st, hfp, by simp; omega, fun i j vi vj s' Q' E' kp hi hj hq => ?_, (fun b o e => Heap.get?_push_of_some _ e), fun b hb => ?_, fun v h' tk hP hk => ?_⟩
  · have hi' : its[i]? = some vi := by simpa using hi
    have hj' : its[j]? = some vj := by simpa using hj
    obtain ⟨x, e1, r1⟩ := vals_right rv hi'
    obtain ⟨y, e2, r2⟩ := vals_right rv hj'
    obtain ⟨dx, f1, p1⟩ := hd.at' e1
    obtain ⟨dy, f2, p2⟩ := hd.at' e2
    obtain ⟨as, g1⟩ := Dp.reads I dx x vi p1 r1
    obtain ⟨bs, g2⟩ := Dp.reads I dy y vj p2 r2
    obtain ⟨al, sh, nn⟩ := okCmp_at hok (List.mem_of_getElem? f1) (List.mem_of_getElem? f2)
    have q1 : ds.getD i .none = dx := by rw [List.getD_eq_getElem?_getD, f1]; rfl
    have q2 : ds.getD j .none = dy := by rw [List.getD_eq_getElem?_getD, f2]; rfl
    have hdep : dx.depth ≤ 64 := by
      unfold SeqAt.shaped at sh
      simp only [Bool.and_eq_true, decide_eq_true_eq] at sh
      exact sh.2
    refine PySem.W.gt_data (PyProof.Rows.Reads.keeps kp g1) (PyProof.Rows.Reads.keeps kp g2) al nn ?_ ?_
    · show X.A.units + 1 + min dx.depth dy.depth < cLine
      omega
    · simp only [q1, q2] at hq
      exact hq
  · rcases List.mem_singleton.mp hb with rfl
    cases e : s.heap.get? s.heap.objs.size with
    | none => rfl
    | some o => exact absurd (Heap.lt_size e) (Nat.lt_irrefl _)
  · have hv : its[argBest (fun i j => PySem.W.dataLt (ds.getD j .none) (ds.getD i .none)) (ds.length - 1)]? = some v := by
      have : its.length = ds.length := by omega
      simpa [this] using hP
    obtain ⟨x, e1, r1⟩ := vals_right rv hv
    exact ⟨x, H, I.kept (old_kept hk), r1, q x e1⟩

theorem cr_minT (hc : X.calm = true) (hu : X.A.units + 66 < cLine) : CallR X (.builtin "min") (rMinT X.K) := by
  intro pins s σ H vs us Q I r h
  obtain ⟨a, xs, ds, rfl, hs, hd, hok, hne, q⟩ := h
  obtain ⟨its, rv, hl, hz⟩ := I.list hs
  have hlen := rv.length
  have hlen2 := hd.len'
  rw [Vals.ref1 r]
  refine call_minA (iter_anyList hl.isList fun s₂ e st hfp hlI => ?_)
  subst e
  refine ⟨_, _, _, _, _, _, (fun i j => PySem.W.dataLt (ds.getD i .none) (ds.getD j .none)), rfl, Walks.list (A := X.A.in1) (I.ok.hd hc) _ a hlI its.toArray, st, hfp, by simp; omega, fun i j vi vj s' Q' E' kp hi hj hq => ?_, (fun b o e => Heap.get?_push_of_some _ e), fun b hb => ?_, fun v h' tk hP hk => ?_⟩
  · have hi' : its[i]? = some vi := by simpa using hi
    have hj' : its[j]? = some vj := by simpa using hj
    obtain ⟨x, e1, r1⟩ := vals_right rv hi'
    obtain ⟨y, e2, r2⟩ := vals_right rv hj'
    obtain ⟨dx, f1, p1⟩ := hd.at' e1
    obtain ⟨dy, f2, p2⟩ := hd.at' e2
    obtain ⟨as, g1⟩ := Dp.reads I dx x vi p1 r1
    obtain ⟨bs, g2⟩ := Dp.reads I dy y vj p2 r2
    obtain ⟨al, sh, nn⟩ := okCmp_at hok (List.mem_of_getElem? f1) (List.mem_of_getElem? f2)
    have q1 : ds.getD i .none = dx := by rw [List.getD_eq_getElem?_getD, f1]; rfl
    have q2 : ds.getD j .none = dy := by rw [List.getD_eq_getElem?_getD, f2]; rfl
    have hdep : dx.depth ≤ 64 := by
      unfold SeqAt.shaped at sh
      simp only [Bool.and_eq_true, decide_eq_true_eq] at sh
      exact sh.2
    refine PySem.W.lt_data (PyProof.Rows.Reads.keeps kp g1) (PyProof.Rows.Reads.keeps kp g2) al nn ?_ ?_
    · show X.A.units + 1 + min dx.depth dy.depth < cLine
      omega
    · simp only [q1, q2] at hq
      exact hq
  · rcases List.mem_singleton.mp hb with rfl
    cases e : s.heap.get? s.heap.objs.size with
    | none => rfl
    | some o => exact absurd (Heap.lt_size e) (Nat.lt_irrefl _)
  · have hv : its[argBest (fun i j => PySem.W.dataLt (ds.getD i .none) (ds.getD j .none)) (ds.length - 1)]? = some v := by
      have : its.length = ds.length := by omega
      simpa [this] using hP
    obtain ⟨x, e1, r1⟩ := vals_right rv hv
    exact ⟨x, H, I.kept (old_kept hk), r1, q x e1⟩

end
section
variable {K : PySem.W.Frag}
theorem shaped_all {ds : List PyData} (h : okCmp ds = true) : PyData.canLayAll0 ds = true := by
  have key : ∀ l : List PyData, (∀ a ∈ l, a.canLay0 = true) → PyData.canLayAll0 l = true := by
    intro l
    induction l with
    | nil => intro _; rfl
    | cons a l ih =>
      intro h
      simp only [PyData.canLayAll0, Bool.and_eq_true]
      exact ⟨h a (List.mem_cons_self ..), ih fun b hb => h b (List.mem_cons_of_mem _ hb)⟩
  exact key ds fun a ha => SeqAt.canLay_of_shaped (okCmp_at h ha ha).2.1

theorem sem_maxT : SemC K (rMaxT K) maxTD := by
  intro F H vs ds z Q rs hs h
  unfold maxTD at hs
  split at hs
  · rename_i ds
    split at hs
    · rename_i hc
      obtain ⟨v, rfl, rv⟩ := rs.one
      obtain ⟨a, xs, rfl, ha, r⟩ := rv.list
      have hlt := (List.getElem?_eq_some_iff.mp hs).1
      refine ⟨a, xs, ds, rfl, SqL.of ha, Rps.dp ds xs (shaped_all hc.1) r, hc.1, by omega, fun x hx => ?_⟩
      obtain ⟨v, h1, h2⟩ := r.get hs
      rw [h1] at hx
      cases hx
      exact h F H _ Stp.refl h2
    · cases hs
  · cases hs

theorem sem_minT : SemC K (rMinT K) minTD := by
  intro F H vs ds z Q rs hs h
  unfold minTD at hs
  split at hs
  · rename_i ds
    split at hs
    · rename_i hc
      obtain ⟨v, rfl, rv⟩ := rs.one
      obtain ⟨a, xs, rfl, ha, r⟩ := rv.list
      have hlt := (List.getElem?_eq_some_iff.mp hs).1
      refine ⟨a, xs, ds, rfl, SqL.of ha, Rps.dp ds xs (shaped_all hc.1) r, hc.1, by omega, fun x hx => ?_⟩
      obtain ⟨v, h1, h2⟩ := r.get hs
      rw [h1] at hx
      cases hx
      exact h F H _ Stp.refl h2
    · cases hs
  · cases hs

end
end Pf
/-! Pf9: set(list), sorted(set(list)). -/
namespace Pf
open PySem PySem.Spec PyProof.Rows L2

theorem setR_congr {w : World} {h : Heap} {a : Addr} {S S' : Int → Bool} {n n' : Nat} (hS : SetR w h a S n) (e : ∀ k, S k = S' k) (en : n = n') : SetR w h a S' n' := by
  have : S = S' := funext e
  subst this; subst en; exact hS
section
variable {prog : Program} {w : World} {A : Around} {R : Result → Shared → Prop} {I : Addr} {fp wr : List Addr} {G : Array GenState → Array GenState → Prop} {n : Nat} {P : Nat → Value → Prop} {St : Nat → Shared → Prop}
theorem setR_update_loop (W : WalksS prog w A.in1 I fp wr G n P St) (S : Addr) (hSf : S ∉ fp)
    (val : Nat → Int) (hval : ∀ i v, P i v → ∃ t, v = .int (val i) t) (hb : n + 1 < scanBound) :
    ∀ (k i : Nat) (s : Shared), n - i = k → i ≤ n → St i s →
      SetR w s.heap S (fun k' => (firstMet val i).any (· == k')) (firstMet val i).length →
      (∀ s', Moved (S :: wr) G s s' → SetR w s'.heap S (fun k' => (firstMet val n).any (· == k')) (firstMet val n).length → R (.ok (.ret .none)) s') →
      codeAny (model prog w) A (.builtin "set.update.loop" ⟨[.ref S, .ref I], []⟩) R s := by
  have hSw : S ∉ wr := fun h => hSf (W.sub _ h)
  have hsub : ∀ b ∈ wr, b ∈ S :: wr := fun b hb => List.mem_cons_of_mem _ hb
  intro k
  induction k with
  | zero =>
    intro i s hk hi hst hS hR
    have hin : i = n := by omega
    subst hin
    refine codeAny_builtin F.entry_set_update_loop ?_
    rw [Around.under_plainId F.plain_set_update_loop _]
    show wpAny _ A.in1 (pyNext (.ref I) >>= _) _ _ s
    refine wpAny_bind (W.done s _ _ hst fun s' hm => ?_)
    show wpAny _ A.in1 (ret Value.none) _ _ s'
    exact wpAny_pure (hR s' (hm.mono hsub) (by
      exact hS.at fun o ho => hm.heap S _ hSw ho))
  | succ k ih =>
    intro i s hk hi hst hS hR
    have hlt : i < n := by omega
    refine codeAny_builtin F.entry_set_update_loop ?_
    rw [Around.under_plainId F.plain_set_update_loop _]
    show wpAny _ A.in1 (pyNext (.ref I) >>= _) _ _ s
    refine wpAny_bind (W.item i s _ _ hlt hst fun v s' hP hst' hm => ?_)
    obtain ⟨t, rfl⟩ := hval i v hP
    have hS' : SetR w s'.heap S (fun k' => (firstMet val i).any (· == k')) (firstMet val i).length := hS.at fun o ho => hm.heap S _ hSw ho
    show wpAny _ A.in1 (holding [Value.int (val i) t] (setAdd S (.int (val i) t)) >>= _) _ _ s'
    refine wpAny_bind (wpAny_holding ?_)
    unfold setAdd
    refine wpAny_holding ?_
    refine wpAny_bind ((intKind prog w).pyHash (k := val i) (intKind_is _ _ _ _) ?_)
    have hroom : (firstMet val i).length + 1 < scanBound := by have := firstMet_length_le val i; omega
    refine setR_add_hashed (s := { s' with toks := s'.toks + 1 }) hS' hroom fun h' hsb hS2 => ?_

    have hSi : SetR w h' S (fun k' => (firstMet val (i + 1)).any (· == k')) (firstMet val (i + 1)).length :=
      setR_congr hS2 (fun k' => by rw [firstMet_succ, step_any]) (by rw [firstMet_succ, step_length])
    refine wpAny_pure ⟨plainId_quiet F.plain_set_update_loop _, ih (i + 1) _ (by omega) hlt (W.frame _ s' _ _ hst' (Nat.le_succ _) fun b hb o e => ?_) hSi fun s'' hm'' hS'' => ?_⟩
    · rw [hsb.2 b (fun h : b = S => hSf (by rw [← h]; exact hb))]; exact e
    · refine hR s'' (Moved.trans W.gtrans ((hm.mono hsub).then_heap (Nat.le_succ _) fun b o hb e => ?_) hm'') hS''
      rw [hsb.2 b (fun h : b = S => hb (by rw [h]; exact List.mem_cons_self))]; exact e
end
section
variable {prog : Program} {w : World} {A : Around} {E : Value → Shared → Prop} {s : Shared}
theorem code_setR_new_1 (a : Value) {Q₁ : Value → Shared → Prop}
    (h : Q₁ (.ref s.heap.objs.size) { s with heap := s.heap.push { cls := .type "set", dict := none, data := .set #[] 0 (.fresh 0 0 (!w.params.followText "set-order")) } }) :
    codeAny (model prog w) A (.call (.builtin "set.__new__") ⟨[.type "set", a], []⟩) (wants Q₁ E) s := by
  refine codeAny_of_tree ?_
  show wpAny _ A.in1 (do checkBuiltinCall "set.__new__" ⟨[.type "set", a], []⟩; again (.builtin "set.__new__" ⟨[.type "set", a], []⟩)) _ _ s
  refine wpAny_bind (wpAny_of_eq (F.newCall_set_1 a) (wpAny_pure ⟨plainId_quiet F.plain_set_new _, codeAny_builtin F.entry_set_new ?_⟩))
  rw [Around.under_plainId F.plain_set_new _]
  unfold Builtin.«set.__new__» Builtin.Frozenset.newClass
  have hsub := sub_set_self
  obtain ⟨hp, g, d, tk, os⟩ := s
  dsimp only
  wp_walk
  refine wpAny_askSetting (wpAny_pure ?_)
  dsimp only
  simp only [newObj]
  refine wpAny_bind (wpAny_alloc (wpAny_pure ?_))
  exact wpAny_pure h

theorem call_setR_list {l : Addr} {items : Array Value} {ns : List Int} {Q : Value → Shared → Prop}
    (hh : A.handled = none) (hl : s.heap.IsList l items) (hi : PyProof.Rows.IntsAre items.toList ns) (hb : items.size + 1 < scanBound)
    (h : ∀ (h' : Heap) (tk : Nat), SetR w h' s.heap.objs.size (fun k' => (PyProof.Rows.firstMet (fun i => ns.getD i 0) items.size).any (· == k')) (PyProof.Rows.firstMet (fun i => ns.getD i 0) items.size).length →
      (∀ b o, b < s.heap.objs.size → s.heap.get? b = some o → h'.get? b = some o) → Q (.ref s.heap.objs.size) { s with heap := h', toks := tk }) :
    wpAny (model prog w) A (call (.type "set") [.ref l]) Q E s := by
  obtain ⟨c, tl, hmro⟩ := F.called_set.mro
  have hmade := F.called_set.made
  have hsub := F.called_set.sub
  refine wpAny_call (codeAny_of_tree ?_)
  show wpAny _ _ (callAny (.type "set") _) _ _ _
  refine wpAny_pure ⟨Code.quiet_builtin _ (by decide +kernel), codeAny_builtin F.entry_type_call ?_⟩
  rw [Around.under_plain (weight_type_call_type "set" [.ref l] []) rfl]
  have h1 := F.called_set.notType
  have h2 := F.called_set.canCreate
  have hct := F.typeCall_set_1 (.ref l)
  repeat (any_goals (first | assumption | wp_step))

  refine codeAny_mono (code_setR_new_1 (.ref l) (E := E) (Q₁ := fun obj s₁ => ∃ led : Bool, led = (!w.params.followText "set-order") ∧ obj = .ref s.heap.objs.size ∧ s₁ = { s with heap := s.heap.push { cls := .type "set", dict := none, data := .set #[] 0 (.fresh 0 0 led) } }) ⟨_, rfl, rfl, rfl⟩) fun r s₁ hr => ?_
  cases r with
  | error e => exact hr
  | ok fl =>
    cases fl with
    | ret obj =>
      obtain ⟨led, hled, rfl, rfl⟩ := hr
      have hS : (s.heap.push { cls := .type "set", dict := none, data := .set #[] 0 (.fresh 0 0 led) }).get? s.heap.objs.size = some { cls := .type "set", dict := none, data := .set #[] 0 (.fresh 0 0 led) } := Heap.get?_push_size _ rfl
      have hT : Shared.TypeIs { s with heap := s.heap.push { cls := .type "set", dict := none, data := .set #[] 0 (.fresh 0 0 led) } } (.ref s.heap.objs.size) "set" := ⟨_, hS, rfl⟩
      have hli := F.called_set.init.lookup
      have hbi := F.called_set.init.bind (.ref s.heap.objs.size)
      repeat (any_goals (first | assumption | wp_step))

      refine codeAny_mono (codeAny_call_builtin (R := wants (fun r s₂ => r = .none ∧ ∃ h' tk, s₂ = { s with heap := h', toks := tk } ∧
          SetR w h' s.heap.objs.size (fun k' => (PyProof.Rows.firstMet (fun i => ns.getD i 0) items.size).any (· == k')) (PyProof.Rows.firstMet (fun i => ns.getD i 0) items.size).length ∧
          (∀ b o, b < s.heap.objs.size → s.heap.get? b = some o → h'.get? b = some o)) E) F.called_set.init.plain F.entry_set_init (check_set_init_1 hT ?_)) fun r₂ s₂ hr₂ => ?_
      · obtain ⟨ol, hol, hcl, nl, hdl⟩ := hl
        obtain ⟨ocls, odict, odata, oslots⟩ := ol
        simp only at hcl hdl
        subst hcl; subst hdl
        have hol' : (s.heap.push { cls := .type "set", dict := none, data := .set #[] 0 (.fresh 0 0 led) }).get? l = some { cls := .type "list", dict := odict, data := .seq items nl, slots := oslots } := Heap.get?_push_of_some _ hol
        have hsls := F.sub_list_set
        have hslf := F.sub_list_frozenset
        have hne : (Value.type "list" == Value.type "dict") = false := by decide
        have hl1 : (s.heap.push { cls := .type "set", dict := none, data := .set #[] 0 (.fresh 0 0 led) }).IsList l items := ⟨_, hol', rfl, nl, rfl⟩
        unfold Builtin.«set.__init__» noKeywords Builtin.Frozenset.updateFrom
        generalize hPI : pyIter = PI
        wp_walk
        subst hPI

        refine wpAny_pyIter_list hl1 ?_
        refine wpAny_bind (wpAny_runValue ?_)
        have hlS : l < s.heap.objs.size := Heap.lt_size hol
        have hh3 : A.in1.in1.in1.handled = none := by simp [hh]
        have hneI : l ≠ (s.heap.push { cls := .type "set", dict := none, data := .set #[] 0 (.fresh 0 0 led) }).objs.size := by
          rw [Heap.size_push]; exact Nat.ne_of_lt (Nat.lt_succ_of_lt hlS)
        have hSf : s.heap.objs.size ∉ [(s.heap.push { cls := .type "set", dict := none, data := .set #[] 0 (.fresh 0 0 led) }).objs.size, l] := by
          rw [Heap.size_push]; simp only [List.mem_cons, List.mem_singleton, List.not_mem_nil, or_false, not_or]
          exact ⟨Nat.ne_of_lt (Nat.lt_succ_self _), Nat.ne_of_gt hlS⟩
        have hval : ∀ (i : Nat) (v : Value), items[i]? = some v → ∃ t, v = .int ((fun i => ns.getD i 0) i) t := fun i v hv =>
          PyProof.Rows.IntsAre.int_at hi i v (by rw [Array.getElem?_toList]; exact hv)
        refine setR_update_loop ((Walks.list hh3 _ l hneI items).toS) s.heap.objs.size
          hSf (fun i => ns.getD i 0) hval hb (items.size - 0) 0 _ (by omega) (Nat.zero_le _)
          ⟨⟨_, Heap.get?_push_size _ rfl, rfl, rfl⟩, (hl1.push _)⟩ ?hS0 ?hR
        case hS0 =>
          have hget : ((s.heap.push { cls := .type "set", dict := none, data := .set #[] 0 (.fresh 0 0 led) }).push { cls := .type "list_iterator", data := .fields #[.ref l, .int 0 0] }).get? s.heap.objs.size
              = some { cls := .type "set", dict := none, data := .set #[] 0 (.fresh 0 0 led) } := Heap.get?_push_of_some _ hS
          subst hled
          exact setR_congr ((setR_fresh w).at fun o ho => Heap.get?_push_of_some _ ho) (fun _ => rfl) rfl
        case hR =>
          intro s' hm hS'
          obtain ⟨h', g', d', tk', os'⟩ := s'
          have eg : g' = s.gens := hm.gens
          have ed : d' = s.drawn := hm.drawn
          have eo : os' = s.os := hm.os
          subst eg; subst ed; subst eo
          show wpAny _ _ _ _ _ _
          refine wpAny_pure ?_
          show wpAny _ _ (ret Value.none) _ _ _
          refine wpAny_pure ⟨rfl, h', tk', rfl, hS', fun b o hb e => ?_⟩
          have hb1 : b ≠ s.heap.objs.size := Nat.ne_of_lt hb
          have hb2 : b ≠ (s.heap.push { cls := .type "set", dict := none, data := .set #[] 0 (.fresh 0 0 led) }).objs.size := by
            rw [Heap.size_push]; exact Nat.ne_of_lt (Nat.lt_succ_of_lt hb)
          exact hm.heap b o (by simp only [List.mem_cons, List.mem_singleton, List.not_mem_nil, or_false, not_or]; exact ⟨hb1, hb2⟩) (Heap.get?_push_of_some _ (Heap.get?_push_of_some _ e))

      · cases r₂ with
        | error e => exact hr₂
        | ok fl₂ =>
          cases fl₂ with
          | ret r =>
            obtain ⟨rfl, h', tk, rfl, hS', hk'⟩ := hr₂
            repeat (any_goals (first | assumption | wp_step))
            exact h _ _ hS' hk'
          | _ => exact hr₂.elim
    | _ => exact hr.elim
end
section
variable {X : Cx} {K : PySem.W.Frag}
/-- set(xs), xs a list of ints -/
def rSetL (w : World) (K : PySem.W.Frag) : List V → Hp → VK → Prop := fun vs H Q => ∃ (a : Addr) (ns : List Int), vs = [.ref a] ∧ SqL K H a (ns.map V.int) ∧ ns.length < 64 ∧
  ∀ (p : Addr) (n : Nat), H p = none → n ≤ ns.length → Q (.ref p) (upd H p (SetO w p (fun k => ns.any (· == k)) n))
theorem getD_range : ∀ (ns : List Int), (List.range ns.length).map (fun i => ns.getD i 0) = ns := fun ns => by
  apply List.ext_getElem?
  intro i
  rw [List.getElem?_map]
  by_cases h : i < ns.length
  · rw [List.getElem?_range h, List.getElem?_eq_getElem h]
    simp [List.getD_eq_getElem?_getD, h]
  · rw [List.getElem?_eq_none (by simpa using h), List.getElem?_eq_none (by simpa using h)]
    rfl
theorem cr_setL (hc : X.calm = true) : CallR X (.type "set") (rSetL X.w X.K) := by
  intro pins s σ H vs us Q I r h
  obtain ⟨a, ns, rfl, hs, h64, q⟩ := h
  obtain ⟨its, rv, hl, hz⟩ := I.list hs
  have hi := rv.ints
  have hlen : its.length = ns.length := hi.length
  rw [Vals.ref1 r]
  refine call_setR_list (items := its.toArray) (ns := ns) (I.ok.hd hc) hl.isList (by simpa using hi) (by rw [List.size_toArray]; unfold scanBound; omega) fun h' tk hS hk => ?_
  rw [show its.toArray.size = ns.length from by rw [List.size_toArray]; exact hlen] at hS
  have hn : H s.heap.objs.size = none := I.hok.fresh (Nat.le_refl _)
  have hS2 : SetR X.w h' s.heap.objs.size (fun k => ns.any (· == k)) (firstMet (fun i => ns.getD i 0) ns.length).length := setR_congr hS (fun k => by rw [firstMet_any, getD_range]) rfl
  exact ⟨.ref _, upd H s.heap.objs.size (SetO X.w s.heap.objs.size (fun k => ns.any (· == k)) _), I.laid (t' := tk) (fun b u e => hk b u (Heap.lt_size e) e) (Nat.le_refl _) (setO_new hS2), rfl, q _ _ hn (firstMet_length_le _ _)⟩
end

/-! ### sorted(set(..)) -/
def insU (k : Int) : List Int → List Int
  | [] => [k]
  | a :: l => if k < a then k :: a :: l else if k = a then a :: l else a :: insU k l
def ssort : List Int → List Int
  | [] => []
  | k :: l => insU k (ssort l)
theorem insU_mem (k : Int) : ∀ (l : List Int) (x : Int), x ∈ insU k l ↔ x = k ∨ x ∈ l
  | [], x => by simp [insU]
  | a :: l, x => by
    unfold insU
    by_cases h : k < a
    · rw [if_pos h]; simp
    · rw [if_neg h]
      by_cases e : k = a
      · rw [if_pos e]; simp [e]
      · rw [if_neg e, List.mem_cons, List.mem_cons, insU_mem k l x]
        constructor
        · rintro (h | h | h)
          · exact .inr (.inl h)
          · exact .inl h
          · exact .inr (.inr h)
        · rintro (h | h | h)
          · exact .inr (.inl h)
          · exact .inl h
          · exact .inr (.inr h)
theorem insU_lt (k : Int) : ∀ (l : List Int), l.Pairwise (· < ·) → (insU k l).Pairwise (· < ·)
  | [], _ => by simp [insU]
  | a :: l, h => by
    have hp := List.pairwise_cons.mp h
    unfold insU
    by_cases hk : k < a
    · rw [if_pos hk]
      refine List.pairwise_cons.mpr ⟨fun x hx => ?_, h⟩
      rcases List.mem_cons.mp hx with rfl | hx
      · exact hk
      · have := hp.1 x hx; omega
    · rw [if_neg hk]
      by_cases e : k = a
      · rw [if_pos e]; exact h
      · rw [if_neg e]
        refine List.pairwise_cons.mpr ⟨fun x hx => ?_, insU_lt k l hp.2⟩
        rcases (insU_mem k l x).mp hx with rfl | hx
        · omega
        · exact hp.1 x hx
theorem ssort_mem : ∀ (l : List Int) (x : Int), x ∈ ssort l ↔ x ∈ l
  | [], x => Iff.rfl
  | k :: l, x => by unfold ssort; rw [insU_mem, ssort_mem l x, List.mem_cons]
theorem ssort_lt : ∀ (l : List Int), (ssort l).Pairwise (· < ·)
  | [] => .nil
  | k :: l => insU_lt k _ (ssort_lt l)
theorem asc_uniq : ∀ {l m : List Int}, l.Pairwise (· < ·) → m.Pairwise (· < ·) → (∀ x, x ∈ l ↔ x ∈ m) → l = m
  | [], m, _, _, h => by
    cases m with
    | nil => rfl
    | cons b m => exact absurd ((h b).mpr (List.mem_cons_self ..)) (by simp)
  | a :: l, m, h1, h2, h => by
    cases m with
    | nil => exact absurd ((h a).mp (List.mem_cons_self ..)) (by simp)
    | cons b m =>
      have p1 := List.pairwise_cons.mp h1
      have p2 := List.pairwise_cons.mp h2
      have ab : a = b := by
        have i1 : a ≤ b := by
          rcases List.mem_cons.mp ((h b).mpr (List.mem_cons_self ..)) with e | hb
          · omega
          · have := p1.1 b hb; omega
        have i2 : b ≤ a := by
          rcases List.mem_cons.mp ((h a).mp (List.mem_cons_self ..)) with e | ha
          · omega
          · have := p2.1 a ha; omega
        omega
      subst ab
      rw [asc_uniq p1.2 p2.2 fun x => ?_]
      constructor
      · intro hx
        rcases List.mem_cons.mp ((h x).mp (List.mem_cons_of_mem _ hx)) with e | q
        · have := p1.1 x hx; omega
        · exact q
      · intro hx
        rcases List.mem_cons.mp ((h x).mpr (List.mem_cons_of_mem _ hx)) with e | q
        · have := p2.1 x hx; omega
        · exact q
def ssetL : PyData → Option (List PyData)
  | .list ds => (intsO ds).bind fun ns => if ns.length < 64 then some ((ssort ns).map .int) else none
  | _ => none
section
variable {X : Cx} {mg : Str → Option Value} {W : WX} {pos : Pos}
theorem pf_sset {e : Expr} {p1 p2 pos1 : Pos} {f : Ro → Res PyData} (hc : X.calm = true) (hg1 : Gl X "sorted") (hm1 : X.mg "sorted" = none) (hg2 : Gl X "set") (hm2 : X.mg "set" = none) (ha : PE X e (tB X.K mg W f))
    (he : starEach [e] X.env = (false, eval e X.env) :: starEach [] X.env := by rfl) (he2 : starEach [.Call (.Name "set" p2) [e] [] pos1] X.env = (false, eval (.Call (.Name "set" p2) [e] [] pos1) X.env) :: starEach [] X.env := by rfl) :
    PE X (.Call (.Name "sorted" p1) [.Call (.Name "set" p2) [e] [] pos1] [] pos) (tN X.K mg W (e1 ssetL f)) :=
  (pe_callB (cr_sortedSet hc) hg1 hm1 (by rfl) (pa_cons (pe_callTy (cr_setL hc) hg2 hm2 (by rfl) (pa_cons ha pa_nil he) (by decide) (by decide) he (by rfl)) pa_nil he2) (by decide) (by decide) he2 (by rfl)).imp fun σ H Q ⟨B, F0, F, ρ, S, p⟩ => by
    refine tE.mk S p fun d F1 H1 x _ st rx p => ?_
    obtain ⟨z, ez, q⟩ := p.ofO
    cases d with
    | list ds =>
      have ez : ((intsO ds).bind fun ns => if ns.length < 64 then some ((ssort ns).map PyData.int) else none) = some z := ez
      cases e : intsO ds with
      | none => rw [e] at ez; cases ez
      | some ns =>
        rw [e] at ez
        have ez : (if ns.length < 64 then some ((ssort ns).map PyData.int) else none) = some z := ez
        split at ez
        · rename_i h64
          cases ez
          obtain ⟨a, rfl, ha⟩ := ints_of rx e
          refine ⟨a, ns, rfl, SqL.of ha, h64, fun p n hp hn => ⟨p, _, n, rfl, upd_same, by omega, fun ns' p' ho hmem hl hp' => ?_⟩⟩
          have en : ns' = ssort ns := asc_uniq ho (ssort_lt ns) fun x => by
            rw [hmem, ssort_mem]
            simp
          subst en
          have hp1 : H1 p' = none := by
            by_cases e : p' = p
            · rw [e]; exact hp
            · rw [upd_ne e] at hp'; exact hp'
          have hpp : p' ≠ p := fun e => by rw [e, upd_same] at hp'; cases hp'
          have s2 : Stp F H F1 (upd H1 p (SetO X.w p (fun k => ns.any (· == k)) n)) := st.trans (Stp.lay hp)
          refine q F1 _ _ (s2.trans (Stp.lay hp')) ⟨p', _, rfl, st.keep.free hp1, fun z => (S.stp st).trk p' z hp1, upd_same, Rps.of_ints⟩
        · cases ez
    | _ => cases ez

/-! ### *e in displays -/
def eStar (f : Ro → Res PyData) (g : Ro → Res (List PyData)) : Ro → Res (List PyData) := fun ρ => (f ρ).bind fun d => (ofO (itL d)).bind fun xs => (g ρ).bind fun ds => .ok (xs ++ ds)
theorem pf_star {e : Expr} {es : List Expr} {p : Pos} {f : Ro → Res PyData} {g : Ro → Res (List PyData)} (h : PE X e (tB X.K mg W f)) (h2 : PA X es (tAs X.K mg W g)) (hs : starEach (.Starred e p :: es) X.env = (true, eval e X.env) :: starEach es X.env := by rfl) :
    PA X (.Starred e p :: es) (tAs X.K mg W (eStar f g)) := (StX.pa_star h h2 hs).imp fun σ H Q ⟨B, F0, F, ρ, S, p⟩ => by
  refine tE.mk S p fun d F1 H1 x _ st1 rx p => ?_
  have key : ∀ (xs : List PyData) (a : Addr) (vs : List V), itL d = some xs → x = .ref a → (SqT X.K H1 a vs ∨ SqL X.K H1 a vs) → Rps X.K F1 H1 vs xs →
      ∃ p xs, x = V.ref p ∧ (SqT X.K H1 p xs ∨ SqL X.K H1 p xs) ∧ tAs X.K mg W g σ H1 fun ys H2 => Q (xs ++ ys) H2 := fun xs a vs ei ev hq hr => by
    rw [ei] at p
    refine ⟨a, vs, ev, hq, tAs.mk (P := fun ds => ∀ F' H' vs, Stp F H F' H' → Rps X.K F' H' vs ds → Q vs H') (S.stp st1) (p.mono st1.keep) fun ds F2 H2 ys _ st2 rys q => ?_⟩
    exact q F2 H2 (vs ++ ys) (st1.trans st2) ((hr.stp st2).append rys)
  cases d with
  | list ds =>
    obtain ⟨a, vs, ev, ha, r⟩ := rx.list
    exact key ds a vs rfl ev (.inr (SqL.of ha)) r
  | tuple ds =>
    obtain ⟨a, vs, ev, ha, r⟩ := rx.tuple
    exact key ds a vs rfl ev (.inl ha) r
  | _ => exact p.elim
def lenOk (ds : List PyData) : Option (List PyData) := if ds.length ≤ 16777216 then some ds else none
theorem pf_lstV {K : PySem.W.Frag} {es : List Expr} {g : Ro → Res (List PyData)} (h : PA X es (tAs K mg W g)) : PE X (.List es pos) (tN K mg W (e1 lenOk g)) :=
  (pe_lst h).imp fun σ H Q ⟨B, F0, F, ρ, S, p⟩ => by
    refine tAs.mk S p fun ds F1 H1 xs e st rxs p => ?_
    obtain ⟨z, ez, q⟩ := p.ofO
    unfold lenOk at ez
    split at ez
    · rename_i hl
      cases ez
      refine ⟨by rw [rxs.length, sizeLine_eq]; exact hl, fun a ha => ?_⟩
      have hn : H a = none := st.keep.free ha
      exact q F1 _ _ (st.trans (Stp.lay ha)) ⟨a, xs, rfl, hn, fun z => (S.stp st).trk a z ha, upd_same, rxs.stp (Stp.lay ha)⟩
    · cases ez
def tupOk (ds : List PyData) : Option PyData := if ds.length ≤ 16777216 then some (.tuple ds) else none

/-! ### several names at once, some of them lists of one's own -/
inductive Ent where
  | val (d : PyData)
  | own (ds : List PyData)
def Ent.sl : Ent → Sl
  | .val d => .val d
  | .own ds => .own ds
inductive REs (K : PySem.W.Frag) (F : Rg) (H : Hp) : List V → List Ent → Prop
  | nil : REs K F H [] []
  | val {v : V} {d : PyData} {vs : List V} {es : List Ent} : Rp K F H v d → REs K F H vs es → REs K F H (v :: vs) (.val d :: es)
  | own {a : Addr} {xs : List V} {ds : List PyData} {vs : List V} {es : List Ent} : ¬ F a → H a = some (.lst xs) → Rps K F H xs ds → (∀ (i : Nat) (es' : List PyData), es[i]? = some (.own es') → vs[i]? ≠ some (.ref a)) → REs K F H vs es → REs K F H (.ref a :: vs) (.own ds :: es)
/-- a list in es is new since H0 -/
def NewEs (H0 : Hp) (vs : List V) (es : List Ent) : Prop := ∀ (i : Nat) (ds : List PyData) (a : Addr), es[i]? = some (.own ds) → vs[i]? = some (.ref a) → H0 a = none
def setA (σ : L2.St) : List Nat → List V → L2.St
  | i :: is, v :: vs => setA (σ.set i (some v)) is vs
  | _, _ => σ
def setE (ρ : Ro) : List Nat → List Ent → Ro
  | i :: is, e :: es => setE (ρ.set i e.sl) is es
  | _, _ => ρ
theorem Ste.sets {K : PySem.W.Frag} {B : Hp} {F0 F : Rg} {H : Hp} : ∀ (is : List Nat) {vs : List V} {es : List Ent} {σ : L2.St} {ρ : Ro}, Ste K B F0 F H σ ρ → REs K F H vs es → NewEs B vs es →
    (∀ (i j : Nat) (ds es' : List PyData) (a : Addr), es[i]? = some (.own ds) → vs[i]? = some (.ref a) → ρ[j]? = some (.own es') → σ[j]? ≠ some (some (.ref a))) → Ste K B F0 F H (setA σ is vs) (setE ρ is es)
  | [], vs, es, σ, ρ, S, r, hB, hn => by
    cases vs <;> cases es <;> exact S
  | i :: is, _, _, σ, ρ, S, .nil, hB, hn => S
  | i :: is, _, _, σ, ρ, S, .val (v := v) (d := d) (vs := vs) (es := es) a b, hB, hn => by
    refine Ste.sets is (S.set_val (i := i) a) b (fun k ds c h1 h2 => hB (k + 1) ds c h1 h2) fun k j ds es' c h1 h2 h3 h4 => ?_
    rcases getset_some h3 with ⟨rfl, q, hl⟩ | ⟨hne, h3⟩
    · cases q
    · rw [getset_ne hne] at h4
      exact hn (k + 1) j ds es' c h1 h2 h3 h4
  | i :: is, _, _, σ, ρ, S, .own (a := a) (xs := xs) (ds := ds) (vs := vs) (es := es) nf ha r hd b, hB, hn => by
    refine Ste.sets is (S.set_own (i := i) nf (hB 0 ds a rfl rfl) ha r fun j es' _ h1 => hn 0 j ds es' a rfl rfl h1) b (fun k ds c h1 h2 => hB (k + 1) ds c h1 h2) fun k j ds2 es' c h1 h2 h3 h4 => ?_
    rcases getset_some h3 with ⟨rfl, q, hl⟩ | ⟨hne, h3⟩
    · rw [List.getElem?_set_self (by rw [S.len]; exact hl)] at h4
      cases h4
      exact hd k ds2 h1 h2
    · rw [getset_ne hne] at h4
      exact hn (k + 1) j ds2 es' c h1 h2 h3 h4
theorem REs.stp {K : PySem.W.Frag} {F F' : Rg} {H H' : Hp} {vs : List V} {es : List Ent} (s : Stp F H F' H') (h : REs K F H vs es) : REs K F' H' vs es := by
  induction h with
  | nil => exact .nil
  | val a _ ih => exact .val (a.stp s) ih
  | own nf ha r hd _ ih => exact .own (fun z => (s.new _ z).elim nf fun z => by have := z.1; rw [ha] at this; cases this) (s.keep _ _ ha) (r.stp s) hd ih
def tEs (K : PySem.W.Frag) (mg : Str → Option Value) (W : WX) (f : Ro → Res (List Ent)) : TA := fun σ H Q =>
  ∃ (B : Hp) (F0 F : Rg) (ρ : Ro), Ste K B F0 F H σ ρ ∧ PostE mg W σ H (fun es => ∀ F' H' vs, Stp F H F' H' → REs K F' H' vs es → NewEs H vs es → Q vs H') (f ρ)
def mNil : Ro → Res (List Ent) := fun _ => .ok []
def mVal (f : Ro → Res PyData) (g : Ro → Res (List Ent)) : Ro → Res (List Ent) := fun ρ => (f ρ).bind fun d => (g ρ).bind fun es => .ok (.val d :: es)
def mOwn (f : Ro → Res (List PyData)) (g : Ro → Res (List Ent)) : Ro → Res (List Ent) := fun ρ => (f ρ).bind fun d => (g ρ).bind fun es => .ok (.own d :: es)
variable {K : PySem.W.Frag}
theorem tEs.mk {β : Type} {σ : L2.St} {H : Hp} {B : Hp} {F0 F : Rg} {ρ : Ro} {f : Ro → Res (List Ent)} {r : List Ent → Res β} {P : β → Prop} {Q : List V → Hp → Prop} (S : Ste K B F0 F H σ ρ) (p : PostE mg W σ H P ((f ρ).bind r))
    (h : ∀ a F' H' vs, f ρ = .ok a → Stp F H F' H' → REs K F' H' vs a → NewEs H vs a → PostE mg W σ H P (r a) → Q vs H') : tEs K mg W f σ H Q := by
  refine ⟨B, F0, F, ρ, S, ?_⟩
  cases e : f ρ with
  | ok a => rw [e] at p; exact fun F' H' v s r n => h a F' H' v e s r n p
  | exc c k => rw [e] at p; exact p
  | bad => rw [e] at p; exact p
theorem pf_mnil : PA X [] (tEs K mg W mNil) := pa_nil.imp fun σ H Q ⟨B, F0, F, ρ, S, p⟩ => p F H [] Stp.refl .nil fun i ds a h => by simp at h
theorem pf_mval {e : Expr} {es : List Expr} {f : Ro → Res PyData} {g : Ro → Res (List Ent)} (h : PE X e (tF K mg W f)) (h2 : PA X es (tEs K mg W g)) (hs : starEach (e :: es) X.env = (false, eval e X.env) :: starEach es X.env := by rfl) :
    PA X (e :: es) (tEs K mg W (mVal f g)) := (pa_cons h h2 hs).imp fun σ H Q ⟨B, F0, F, ρ, S, p⟩ => by
  refine tE.mk S p fun d F1 H1 x _ st1 rx p => ?_
  refine tEs.mk (S.stp st1) (p.mono st1.keep) fun ds F2 H2 xs _ st2 rxs hn q => ?_
  refine q F2 H2 (x :: xs) (st1.trans st2) (.val (rx.stp st2) rxs) fun i ds a h1 h2 => ?_
  cases i with
  | zero => cases h1
  | succ i => exact st1.keep.free (hn i ds a h1 h2)
theorem pf_mown {e : Expr} {es : List Expr} {f : Ro → Res (List PyData)} {g : Ro → Res (List Ent)} (h : PE X e (tN K mg W f)) (h2 : PA X es (tEs K mg W g)) (hs : starEach (e :: es) X.env = (false, eval e X.env) :: starEach es X.env := by rfl) :
    PA X (e :: es) (tEs K mg W (mOwn f g)) := (pa_cons h h2 hs).imp fun σ H Q ⟨B, F0, F, ρ, S, p⟩ => by
  refine tE.mk S p fun d F1 H1 x _ st1 rx p => ?_
  obtain ⟨a, ys, rfl, hn0, nf, ha, r⟩ := rx
  refine tEs.mk (S.stp st1) (p.mono st1.keep) fun ds F2 H2 xs _ st2 rxs hn q => ?_
  refine q F2 H2 (.ref a :: xs) (st1.trans st2) (.own (fun z => (st2.new _ z).elim nf fun z => by have := z.1; rw [ha] at this; cases this) (st2.keep _ _ ha) (r.stp st2) (fun i es' h1 h2 => by have := hn i es' a h1 h2; rw [ha] at this; cases this) rxs) fun i ds' b h1 h2 => ?_
  cases i with
  | zero => cases h1; cases h2; exact hn0
  | succ i => exact st1.keep.free (hn i ds' b h1 h2)
def sParM (is : List Nat) (fs : Ro → Res (List Ent)) : Ro → Out := fun ρ => (fs ρ).out fun es => if es.length = is.length then .nx (setE ρ is es) else .bad
theorem REs.len {F : Rg} {H : Hp} {vs : List V} {es : List Ent} (h : REs K F H vs es) : vs.length = es.length := by
  induction h with
  | nil => rfl
  | val _ _ ih => simp [ih]
  | own _ _ _ _ _ ih => simp [ih]
theorem sets_of {B : Hp} {F0 F F' : Rg} {H H' : Hp} {σ : L2.St} {ρ : Ro} {is : List Nat} {vs : List V} {es : List Ent} (S : Ste K B F0 F H σ ρ) (st : Stp F H F' H') (r : REs K F' H' vs es) (hn : NewEs H vs es) : Ste K B F0 F' H' (setA σ is vs) (setE ρ is es) :=
  Ste.sets is (S.stp st) r (fun i ds a h1 h2 => S.same.free (hn i ds a h1 h2)) fun i j ds es' a h1 h2 h3 h4 => by
    obtain ⟨b, ys, g1, _, _, g4, _⟩ := S.own j es' h3
    rw [g1] at h4
    cases h4
    rw [hn i ds a h1 h2] at g4
    cases g4
theorem pq_parM {i j : Nat} {x y : Str} {a b : Expr} {fs : Ro → Res (List Ent)} {px py pt : Pos} {kt k2 pt2} (hc : X.calm = true) (hN : X.N.Nodup) (hi : X.N[i]? = some x) (hj : X.N[j]? = some y) (hij : i ≠ j)
    (hx : X.env.scope.names.lookup x = some .local) (hy : X.env.scope.names.lookup y = some .local) (ha : PA X [a, b] (tEs K mg W fs))
    (hw : swappedStores [.Tuple [.Name x px, .Name y py] kt pt] (.Tuple [a, b] k2 pt2) X.env = pure (some [x, y]) := by rfl)
    (hs : swapsWithSole [.Tuple [.Name x px, .Name y py] kt pt] (.Tuple [a, b] k2 pt2) pos.line X.env = pure false := by rfl) :
    PS X (.Assign [.Tuple [.Name x px, .Name y py] kt pt] (.Tuple [a, b] k2 pt2) pos) (tS K mg W (sParM [i, j] fs)) := (ps_par hc hN hi hj hij hx hy ha hw hs).imp fun D σ H ⟨B, F0, F, ρ, S, p⟩ => by
  refine ⟨B, F0, F, ρ, S, PostE.of_out S p fun es _ q F' H' vs st r hn => ?_⟩
  split at q
  · rename_i hl
    have hl2 := r.len
    rw [hl] at hl2
    match vs, hl2 with
    | [v, w], _ => exact ⟨v, w, rfl, q _ F' H' (sets_of (is := [i, j]) S st r hn) st.fk⟩
  · exact q.elim
theorem pq_parM3 {i j l : Nat} {x y z : Str} {a b c : Expr} {fs : Ro → Res (List Ent)} {px py pz pt : Pos} {kt k2 pt2} (hc : X.calm = true) (hN : X.N.Nodup) (hi : X.N[i]? = some x) (hj : X.N[j]? = some y) (hl : X.N[l]? = some z) (hij : i ≠ j) (hil : i ≠ l) (hjl : j ≠ l)
    (hx : X.env.scope.names.lookup x = some .local) (hy : X.env.scope.names.lookup y = some .local) (hz : X.env.scope.names.lookup z = some .local) (ha : PA X [a, b, c] (tEs K mg W fs))
    (hw : swappedStores [.Tuple [.Name x px, .Name y py, .Name z pz] kt pt] (.Tuple [a, b, c] k2 pt2) X.env = pure (some [x, y, z]) := by rfl)
    (hs : swapsWithSole [.Tuple [.Name x px, .Name y py, .Name z pz] kt pt] (.Tuple [a, b, c] k2 pt2) pos.line X.env = pure false := by rfl) :
    PS X (.Assign [.Tuple [.Name x px, .Name y py, .Name z pz] kt pt] (.Tuple [a, b, c] k2 pt2) pos) (tS K mg W (sParM [i, j, l] fs)) := (ps_par3 hc hN hi hj hl hij hil hjl hx hy hz ha hw hs).imp fun D σ H ⟨B, F0, F, ρ, S, p⟩ => by
  refine ⟨B, F0, F, ρ, S, PostE.of_out S p fun es _ q F' H' vs st r hn => ?_⟩
  split at q
  · rename_i hl
    have hl2 := r.len
    rw [hl] at hl2
    match vs, hl2 with
    | [u, v, w], _ => exact ⟨u, v, w, rfl, q _ F' H' (sets_of (is := [i, j, l]) S st r hn) st.fk⟩
  · exact q.elim
end
end Pf
/-! Pf10: comprehensions of two fors. -/
namespace Pf
open PySem PySem.Spec PyProof.Rows L2

/-- the rows of an inner turn -/
def compF2 (g : PyData → Ro → Option Ro) (c : Ro → Res Bool) (fi1 : Ro → Res (List PyData)) (own1 : List Nat) (g1 : PyData → Ro → Option Ro) (c1 : Ro → Res Bool) (f : Ro → Res PyData) (ρ : Ro) : List PyData → Option (List PyData)
  | [] => some []
  | d :: ds => (g d ρ).bind fun ρ1 => (c ρ1).opt.bind fun b => if b = true then (fi1 ρ1).opt.bind fun es => (compF g1 c1 f (wipeR ρ1 own1) es).bind fun ys => (compF2 g c fi1 own1 g1 c1 f ρ ds).map (ys ++ ·) else compF2 g c fi1 own1 g1 c1 f ρ ds
def eComp2 (own : List Nat) (fi : Ro → Res (List PyData)) (g : PyData → Ro → Option Ro) (c : Ro → Res Bool) (fi1 : Ro → Res (List PyData)) (own1 : List Nat) (g1 : PyData → Ro → Option Ro) (c1 : Ro → Res Bool) (f : Ro → Res PyData) : Ro → Res (List PyData) := fun ρ =>
  (fi ρ).bind fun ds => ofO ((compF2 g c fi1 own1 g1 c1 f (wipeR ρ own) ds).bind lenOk)
theorem wipe_idem (σ : L2.St) (own : List Nat) : L2.wipe (L2.wipe σ own) own = L2.wipe σ own := by
  have idem : ∀ (vs ws : List Nat), (∀ v ∈ vs, v ∈ ws) → L2.wipe (L2.wipe σ ws) vs = L2.wipe σ ws := by
    intro vs
    induction vs with
    | nil => intro ws _; rfl
    | cons v vs ih =>
      intro ws hv
      show (L2.wipe (L2.wipe σ ws) vs).set v none = L2.wipe σ ws
      rw [ih ws fun u hu => hv u (List.mem_cons_of_mem _ hu)]
      have hvw := hv v (List.mem_cons_self ..)
      have key : ∀ ws : List Nat, v ∈ ws → (L2.wipe σ ws).set v none = L2.wipe σ ws := by
        intro ws
        induction ws with
        | nil => intro h; cases h
        | cons w ws ih2 =>
          intro h
          unfold L2.wipe
          by_cases e : v = w
          · subst e; rw [List.set_set]
          · rw [List.set_comm _ _ (Ne.symm e)]
            rcases List.mem_cons.mp h with e2 | h2
            · exact absurd e2 e
            · rw [ih2 h2]
      exact key ws hvw
  exact idem own own fun _ h => h
section
variable {X : Cx} {K : PySem.W.Frag} {mg : Str → Option Value} {W : WX} {pos : Pos}
theorem compF_len {g : PyData → Ro → Option Ro} {c : Ro → Res Bool} {f : Ro → Res PyData} {ρ : Ro} : ∀ {ds zs : List PyData}, compF g c f ρ ds = some zs → zs.length ≤ ds.length
  | [], zs, h => by cases h; exact Nat.le_refl _
  | d :: ds, zs, h => by
    unfold compF at h
    obtain ⟨ρ1, e1, h⟩ := Option.bind_eq_some_iff.mp h
    obtain ⟨b, e2, h⟩ := Option.bind_eq_some_iff.mp h
    split at h
    · obtain ⟨y, e3, h⟩ := Option.bind_eq_some_iff.mp h
      obtain ⟨zs', e4, rfl⟩ := Option.map_eq_some_iff.mp h
      have := compF_len e4
      simp
      omega
    · have := compF_len h
      simp
      omega
theorem Ste.poke {B : Hp} {F0 F : Rg} {H : Hp} {σ : L2.St} {ρ : Ro} {D : Addr} {o : HO} (S : Ste K B F0 F H σ ρ) (nF : ¬ F D) (nB : B D = none) (nD : ∀ (j : Nat) (es : List PyData), ρ[j]? = some (.own es) → σ[j]? ≠ some (some (.ref D))) : Ste K B F0 F (upd H D o) σ ρ := by
  have ne : ∀ {b : Addr}, F b → b ≠ D := fun {b} hb z => nF (z ▸ hb)
  have fk : FK F H F (upd H D o) := ⟨fun _ h => h, fun b hb o' e => by rw [upd_ne (ne hb)]; exact e⟩
  refine ⟨fun b o' q => ?_, S.reg, S.sub, fun b hb => by rw [upd_ne (ne hb)]; exact S.trk b hb, S.len, fun j d h => ?_, fun j es h => ?_, S.sep⟩
  · have : b ≠ D := fun z => by rw [z, nB] at q; cases q
    rw [upd_ne this]; exact S.same b o' q
  · obtain ⟨w, g1, g2⟩ := S.val j d h
    exact ⟨w, g1, g2.fk fk⟩
  · obtain ⟨b, zs, g1, g2, g3, g4, g5⟩ := S.own j es h
    have hb : b ≠ D := fun z => by rw [z] at g1; exact nD j es h g1
    exact ⟨b, zs, g1, g2, g3, by rw [upd_ne hb]; exact g4, g5.fk fk⟩
theorem Stp.poke {F1 F : Rg} {H1 H : Hp} {D : Addr} {o : HO} (s : Stp F1 H1 F H) (hD : H1 D = none) : Stp F1 H1 F (upd H D o) :=
  ⟨s.sub, fun b o' e => by rw [upd_ne (ne_of_none e hD)]; exact s.keep b o' e, fun b hb => (s.new b hb).imp id fun z => ⟨z.1, by
    by_cases e : b = D
    · rw [e, upd_same]; simp
    · rw [upd_ne e]; exact z.2⟩⟩
theorem FK.poke {F1 F : Rg} {H1 H : Hp} {D : Addr} {o : HO} (s : FK F1 H1 F H) (nF : ¬ F D) : FK F1 H1 F (upd H D o) :=
  ⟨s.sub, fun b hb o' e => by rw [upd_ne (show b ≠ D from fun z => nF (by rw [← z]; exact s.sub b hb))]; exact s.keep b hb o' e⟩
theorem tLc2_of {fi fi1 : Ro → Res (List PyData)} {g g1 : PyData → Ro → Option Ro} {c c1 : Ro → Res Bool} {f : Ro → Res PyData} {own own1 is is1 : List Nat} (his : ∀ i ∈ is, i ∈ own) (his1 : ∀ i ∈ is1, i ∈ own1) {σ : L2.St} {H : Hp} {Q : VK} (h : tN K mg W (eComp2 own fi g c fi1 own1 g1 c1 f) σ H Q) :
    tLc2 (tI K mg W true fi) (tTg K is g) (tTs K mg W0 c) (tI K mg W0 false fi1) (tTg K is1 g1) (tTs K mg W0 c1) (tF K mg W0 f) own own1 σ H Q := by
  obtain ⟨B, F0, F, ρ, S, p⟩ := h
  refine ⟨B, F0, F, ρ, S, ?_⟩
  unfold eComp2 at p
  cases ei : fi ρ with
  | exc c k => rw [ei] at p; exact p
  | bad => rw [ei] at p; exact p
  | ok ds =>
    rw [ei] at p
    obtain ⟨zs, ez, q⟩ := PostE.ofO (r := (compF2 g c fi1 own1 g1 c1 f (wipeR ρ own) ds).bind lenOk) p
    obtain ⟨zs', ez, ez2⟩ := Option.bind_eq_some_iff.mp ez
    unfold lenOk at ez2
    split at ez2
    case isFalse => cases ez2
    rename_i hlz
    cases ez2
    intro J F1 H1 st G D hD
    -- the word at the outer turn i
    let Wd : Nat → Hp → Prop := fun i H2 => ∃ (F2 : Rg) (acc : List V) (done : List PyData) (rest : List PyData), Stp F1 H1 F2 H2 ∧ ¬ F2 D ∧ H2 D = some (.lst acc) ∧ Rps K F2 H2 acc done ∧
      compF2 g c fi1 own1 g1 c1 f (wipeR ρ own) (ds.drop i) = some rest ∧ zs = done ++ rest
    refine ⟨fun i m H2 => m = ds.length - i ∧ i ≤ ds.length ∧ Wd i H2, ⟨ds.length, by simp, Nat.zero_le _, F1, [], [], zs, Stp.lay hD, fun z => (S.stp st).trk D z hD, upd_same, .nil, by simpa using ez, rfl⟩, ?_⟩
    rintro i m H2 ⟨rfl, hi, F2, acc, done, rest, s2, nF, hDl, ra, hrest, hz⟩
    have kp : Kept true F1 H1 F2 H2 := ⟨s2.sub, fun a _ o e => s2.keep a o e⟩
    by_cases hlt : i < ds.length
    · obtain ⟨g1', g2⟩ := G.go i ds[i] F2 H2 (by simp [hlt]) kp
      refine .inr ⟨g1', Wd (i + 1), fun H' hh => ⟨ds.length - (i + 1), by omega, rfl, hlt, hh⟩, fun x H3 y => ?_⟩
      obtain ⟨F3, st3, rx⟩ := g2 x H3 y
      have S3 : Ste K B F0 F3 H3 (L2.wipe σ own) (wipeR ρ own) := ((S.stp (st.trans (s2.trans st3))).wipe own)
      rw [List.drop_eq_getElem_cons hlt] at hrest
      unfold compF2 at hrest
      obtain ⟨ρ1, e1, hrest⟩ := Option.bind_eq_some_iff.mp hrest
      -- the base with D told: no own slot is at D
      have nBD : B D = none := S.same.free (st.keep.free hD)
      have hD3 : H3 D = some (.lst acc) := st3.keep _ _ hDl
      have nF3 : ¬ F3 D := fun z => (st3.new D z).elim nF fun z => by have := z.1; rw [hDl] at this; cases this
      have S3' : Ste K (upd B D (.lst acc)) F0 F3 H3 (L2.wipe σ own) (wipeR ρ own) := by
        refine ⟨fun b o q => ?_, fun a ha => (S3.reg a ha).imp id fun z => ?_, S3.sub, S3.trk, S3.len, S3.val, fun j es h => ?_, S3.sep⟩
        · by_cases e : b = D
          · rw [e, upd_same] at q; cases q; rw [e]; exact hD3
          · rw [upd_ne e] at q; exact S3.same b o q
        · rw [upd_ne (show a ≠ D from fun e => nF3 (by rw [← e]; exact ha))]; exact z
        · obtain ⟨a, xs, h1, h2, h3, h4, h5⟩ := S3.own j es h
          obtain ⟨a2, xs2, k1, k2, k3, k4, k5⟩ := (S.wipe own).own j es h
          rw [h1] at k1
          cases k1
          refine ⟨a, xs, h1, h2, ?_, h4, h5⟩
          rw [upd_ne (fun e => by rw [e, st.keep.free hD] at k4; cases k4)]
          exact h3
      refine ⟨upd B D (.lst acc), F0, F3, wipeR ρ own, ds[i], S3', rx, ρ1, e1, fun σ2 S4' w => ⟨?_, ?_⟩⟩
      · rw [w own his]; exact wipe_idem σ own
      have nD : ∀ (j : Nat) (es : List PyData), ρ1[j]? = some (.own es) → σ2[j]? ≠ some (some (.ref D)) := fun j es h z => by
        obtain ⟨a, xs, h1, h2, h3, h4, h5⟩ := S4'.own j es h
        rw [z] at h1
        cases h1
        rw [upd_same] at h3
        cases h3
      have S4 : Ste K B F0 F3 H3 σ2 ρ1 := by
        refine ⟨S3.same, S3.reg, S4'.sub, S4'.trk, S4'.len, S4'.val, fun j es h => ?_, S4'.sep⟩
        obtain ⟨a, xs, h1, h2, h3, h4, h5⟩ := S4'.own j es h
        refine ⟨a, xs, h1, h2, ?_, h4, h5⟩
        rw [upd_ne (fun e => by rw [e, upd_same] at h3; cases h3)] at h3
        exact h3
      · obtain ⟨b, eb, hrest⟩ := Option.bind_eq_some_iff.mp hrest
        refine ⟨B, F0, F3, ρ1, S4, ?_⟩
        rw [opt_some eb]
        intro F4 H4 st4
        have s24 := st3.trans st4
        have nF4 : ¬ F4 D := fun z => (s24.new D z).elim nF fun z => by have := z.1; rw [hDl] at this; cases this
        cases b with
        | false =>
          rw [if_neg (by decide)] at hrest ⊢
          exact ⟨F4, acc, done, rest, s2.trans s24, nF4, s24.keep _ _ hDl, ra.stp s24, hrest, hz⟩
        | true =>
          rw [if_pos rfl] at hrest ⊢
          obtain ⟨es, ees, hrest⟩ := Option.bind_eq_some_iff.mp hrest
          obtain ⟨ys, eys, hrest⟩ := Option.bind_eq_some_iff.mp hrest
          refine ⟨B, F0, F4, ρ1, S4.stp st4, ?_⟩
          rw [opt_some ees]
          intro J1 F5 H5 st5 G1
          obtain ⟨rest2, er2, erest⟩ := Option.map_eq_some_iff.mp hrest
          have s25 := s24.trans st5
          have hD5 : H5 D = some (.lst acc) := s25.keep _ _ hDl
          have nF5 : ¬ F5 D := fun z => (s25.new D z).elim nF fun z => by have := z.1; rw [hDl] at this; cases this
          have S5 := (S4.stp st4).stp st5
          have s15 := s2.trans s25
          -- the word at the inner turn j
          let Wd1 : Nat → Hp → Prop := fun j H6 => ∃ (F6 : Rg) (acc1 : List V) (done1 : List PyData) (r1 : List PyData), Stp F1 H1 F6 H6 ∧ FK F5 H5 F6 H6 ∧ Ste K B F0 F6 H6 σ2 ρ1 ∧ ¬ F6 D ∧ H6 D = some (.lst acc1) ∧ Rps K F6 H6 acc1 done1 ∧
            compF g1 c1 f (wipeR ρ1 own1) (es.drop j) = some r1 ∧ done ++ ys = done1 ++ r1
          refine ⟨fun j m H6 => m = es.length - j ∧ j ≤ es.length ∧ Wd1 j H6, ⟨es.length, by simp, Nat.zero_le _, F5, acc, done, ys, s15, FK.refl, S5, nF5, hD5, ra.stp s25, by simpa using eys, rfl⟩, ?_⟩
          rintro j m H6 ⟨rfl, hj, F6, acc1, done1, r1, s6, k6, S6, nF6, hD6, ra6, hr1, hz1⟩
          have kp1 : Kept false F5 H5 F6 H6 := ⟨k6.sub, fun a h o e => k6.keep a (h.elim (fun z => nomatch z) id) o e⟩
          by_cases hlt1 : j < es.length
          · obtain ⟨q1, q2⟩ := G1.go j es[j] F6 H6 (by simp [hlt1]) kp1
            refine .inr ⟨q1, Wd1 (j + 1), fun H' hh => ⟨es.length - (j + 1), by omega, rfl, hlt1, hh⟩, fun x1 H7 y1 => ?_⟩
            obtain ⟨F7, st7, rx1⟩ := q2 x1 H7 y1
            have S7 := (S6.stp st7).wipe own1
            rw [List.drop_eq_getElem_cons hlt1] at hr1
            unfold compF at hr1
            obtain ⟨ρ2, e2, hr1⟩ := Option.bind_eq_some_iff.mp hr1
            refine ⟨B, F0, F7, wipeR ρ1 own1, es[j], S7, rx1, ρ2, e2, fun σ3 S8 w1 => ⟨?_, ?_⟩⟩
            · rw [w1 own1 his1]; exact wipe_idem σ2 own1
            obtain ⟨b1, eb1, hr1⟩ := Option.bind_eq_some_iff.mp hr1
            refine ⟨B, F0, F7, ρ2, S8, ?_⟩
            rw [opt_some eb1]
            intro F8 H8 st8
            have s78 := st7.trans st8
            have nF8 : ¬ F8 D := fun z => (s78.new D z).elim nF6 fun z => by have := z.1; rw [hD6] at this; cases this
            cases b1 with
            | false =>
              rw [if_neg (by decide)] at hr1 ⊢
              exact ⟨F8, acc1, done1, r1, s6.trans s78, k6.trans s78.fk, S6.stp s78, nF8, s78.keep _ _ hD6, ra6.stp s78, hr1, hz1⟩
            | true =>
              rw [if_pos rfl] at hr1 ⊢
              obtain ⟨y, ey, hr1⟩ := Option.bind_eq_some_iff.mp hr1
              obtain ⟨r2, er2', rfl⟩ := Option.map_eq_some_iff.mp hr1
              refine ⟨B, F0, F8, ρ2, S8.stp st8, ?_⟩
              rw [opt_some ey]
              intro F9 H9 v st9 ry
              have s79 := s78.trans st9
              have hD9 : H9 D = some (.lst acc1) := s79.keep _ _ hD6
              have nF9 : ¬ F9 D := fun z => (s79.new D z).elim nF6 fun z => by have := z.1; rw [hD6] at this; cases this
              refine ⟨acc1, hD9, ?_, ?_⟩
              · rw [ra6.length, sizeLine_eq]
                have h1 : zs.length = (done ++ ys).length + rest2.length := by rw [hz, ← erest, ← List.append_assoc, List.length_append]
                rw [hz1, List.length_append, List.length_cons] at h1
                omega
              · exact ⟨F9, acc1 ++ [v], done1 ++ [y], r2, (s6.trans s79).poke hD, (k6.trans s79.fk).poke nF9, (S6.stp s79).poke nF9 nBD nD, nF9, upd_same, ((ra6.stp s79).append (.cons ry .nil)).fk (FK.refl.poke nF9), er2', by rw [hz1]; simp⟩
          · have e : j = es.length := by omega
            subst e
            refine .inl ⟨G1.stop F6 H6 kp1, ?_⟩
            rw [List.drop_length] at hr1
            cases hr1
            rw [List.append_nil] at hz1
            exact ⟨F6, acc1, done1, rest2, s6, nF6, hD6, ra6, er2, by rw [hz, ← erest, ← hz1]; simp⟩
    · have e : i = ds.length := by omega
      subst e
      refine .inl ⟨G.stop F2 H2 kp, ?_⟩
      rw [List.drop_length] at hrest
      cases hrest
      rw [List.append_nil] at hz
      subst hz
      exact q F2 H2 _ (st.trans s2) ⟨D, acc, rfl, st.keep.free hD, nF, hDl, ra⟩
/-- [e for x in .. for y in ..] -/
theorem pf_lc2 {elt tg iter tg1 iter1 : Expr} {ifs ifs1 : List Expr} {scope : Scope} {own : List (Str × Nat)} {own1 is is1 : List Nat} {fi fi1 : Ro → Res (List PyData)} {g g1 : PyData → Ro → Option Ro} {c c1 : Ro → Res Bool} {f : Ro → Res PyData} (hc : X.calm = true) (hN : X.N.Nodup) (hi : PI X tg iter (tI K mg W true fi)) (ok : BlkOk X.N X.env.scope scope own) (hv : ∀ i ∈ own1, i ∈ own.map (·.2) := by decide)
    (hg : ∀ (s : Shared) (H : Hp) (C : Addr) (cl : List (Str × Addr)) (fp : List Addr), PG (X.blk s H scope (compEnvC scope cl C X.env) fp) tg (tTg K is g)) (ht : ∀ (s : Shared) (H : Hp) (C : Addr) (cl : List (Str × Addr)) (fp : List Addr), PTs (X.blk s H scope (compEnvC scope cl C X.env) fp) ifs (tTs K mg W0 c))
    (hi1 : ∀ (s : Shared) (H : Hp) (C : Addr) (cl : List (Str × Addr)) (fp : List Addr), PI (X.blk s H scope (compEnvC scope cl C X.env) fp) tg1 iter1 (tI K mg W0 false fi1))
    (hg1 : ∀ (s : Shared) (H : Hp) (C : Addr) (cl : List (Str × Addr)) (fp : List Addr), PG (X.blk s H scope (compEnvC scope cl C X.env) fp) tg1 (tTg K is1 g1)) (ht1 : ∀ (s : Shared) (H : Hp) (C : Addr) (cl : List (Str × Addr)) (fp : List Addr), PTs (X.blk s H scope (compEnvC scope cl C X.env) fp) ifs1 (tTs K mg W0 c1))
    (he : ∀ (s : Shared) (H : Hp) (C : Addr) (cl : List (Str × Addr)) (fp : List Addr), PE (X.blk s H scope (compEnvC scope cl C X.env) fp) elt (tF K mg W0 f)) (his : ∀ i ∈ is, i ∈ own.map (·.2) := by decide) (his1 : ∀ i ∈ is1, i ∈ own1 := by decide) (hs : ∀ x, foldedSetIterable iter X.env x = pure x := by intro _; rfl) (hs1 : ∀ env x, foldedSetIterable iter1 env x = pure x := by intro _ _; rfl) :
    PE X (.ListComp elt [⟨tg, iter, ifs, 0⟩, ⟨tg1, iter1, ifs1, 0⟩] scope pos) (tN K mg W (eComp2 (own.map (·.2)) fi g c fi1 own1 g1 c1 f)) := (pe_lc2 hc hN hi ok hv hg ht hi1 hg1 ht1 he hs hs1).imp fun _ _ _ h => tLc2_of his his1 h
/-- y = [e for x in .. for y in ..] on one line, the name a local -/
theorem pq_setLc2 {own : Bool} {i : Nat} {y : Str} {py : Pos} {elt tg iter tg1 iter1 : Expr} {ifs ifs1 : List Expr} {scope : Scope} {ow : List (Str × Nat)} {own1 is is1 : List Nat} {spos : Pos} {fi fi1 : Ro → Res (List PyData)} {g g1 : PyData → Ro → Option Ro} {c c1 : Ro → Res Bool} {f : Ro → Res PyData} (hc : X.calm = true) (hN : X.N.Nodup) (hy : X.N[i]? = some y) (hyl : X.env.scope.names.lookup y = some .local)
    (hsw : swapsWith (.ListComp elt [⟨tg, iter, ifs, 0⟩, ⟨tg1, iter1, ifs1, 0⟩] scope pos) (some (.Name y py)) spos.line X.env = pure true) (hi : PI X tg iter (tI K mg W true fi)) (ok : BlkOk X.N X.env.scope scope ow) (hv : ∀ i ∈ own1, i ∈ ow.map (·.2))
    (hg : ∀ (s : Shared) (H : Hp) (C : Addr) (cl : List (Str × Addr)) (fp : List Addr), PG (X.blk s H scope (compEnvC scope cl C X.env) fp) tg (tTg K is g)) (ht : ∀ (s : Shared) (H : Hp) (C : Addr) (cl : List (Str × Addr)) (fp : List Addr), PTs (X.blk s H scope (compEnvC scope cl C X.env) fp) ifs (tTs K mg W0 c))
    (hi1 : ∀ (s : Shared) (H : Hp) (C : Addr) (cl : List (Str × Addr)) (fp : List Addr), PI (X.blk s H scope (compEnvC scope cl C X.env) fp) tg1 iter1 (tI K mg W0 false fi1))
    (hg1 : ∀ (s : Shared) (H : Hp) (C : Addr) (cl : List (Str × Addr)) (fp : List Addr), PG (X.blk s H scope (compEnvC scope cl C X.env) fp) tg1 (tTg K is1 g1)) (ht1 : ∀ (s : Shared) (H : Hp) (C : Addr) (cl : List (Str × Addr)) (fp : List Addr), PTs (X.blk s H scope (compEnvC scope cl C X.env) fp) ifs1 (tTs K mg W0 c1))
    (he : ∀ (s : Shared) (H : Hp) (C : Addr) (cl : List (Str × Addr)) (fp : List Addr), PE (X.blk s H scope (compEnvC scope cl C X.env) fp) elt (tF K mg W0 f)) (his : ∀ i ∈ is, i ∈ ow.map (·.2) := by decide) (his1 : ∀ i ∈ is1, i ∈ own1 := by decide) (hs : ∀ x, foldedSetIterable iter X.env x = pure x := by intro _; rfl) (hs1 : ∀ env x, foldedSetIterable iter1 env x = pure x := by intro _ _; rfl) :
    PS X (.Assign [.Name y py] (.ListComp elt [⟨tg, iter, ifs, 0⟩, ⟨tg1, iter1, ifs1, 0⟩] scope pos) spos) (tS K mg W (if own = true then sSetN i (eComp2 (ow.map (·.2)) fi g c fi1 own1 g1 c1 f) else sSet i (e1 listD (eComp2 (ow.map (·.2)) fi g c fi1 own1 g1 c1 f)))) :=
  (ps_setLc2 hc hN hy hyl hsw hi ok hv hg ht hi1 hg1 ht1 he hs hs1).imp fun D σ H ⟨B, F0, F, ρ, S, p⟩ => by
    refine tLc2_of his his1 ⟨B, F0, F, ρ, S, ?_⟩
    cases own with
    | true => exact PostE.of_out S p fun ds _ q F' H' v st ⟨a, xs, ev, hn, nf, ha, r⟩ => by subst ev; exact q _ F' H' (set_own_of S st hn nf ha r) st.fk
    | false =>
      have p2 : PostS K mg W B F0 F H D ((eComp2 (ow.map (·.2)) fi g c fi1 own1 g1 c1 f ρ).out fun ds => .nx (ρ.set i (.val (.list ds)))) := by
        rw [if_neg (by decide)] at p
        unfold sSet e1 at p
        cases e : eComp2 (ow.map (·.2)) fi g c fi1 own1 g1 c1 f ρ with
        | _ => rw [e] at p; exact p
      refine PostE.of_out S p2 fun ds _ q F' H' v st ⟨a, xs, ev, hn, nf, ha, r⟩ => ?_
      subst ev
      have s2 : Stp F H (fun b => F' b ∨ b = a) H' := ⟨fun b h => .inl (st.sub b h), st.keep, fun b h => h.elim (fun z => st.new b z) fun z => .inr (by rw [z]; exact ⟨hn, by rw [ha]; simp⟩)⟩
      exact q _ _ H' ((S.stp s2).set_val (.lst (.inr rfl) ha (r.fk ⟨fun _ h => .inl h, fun _ _ _ h => h⟩))) s2.fk
end
end Pf
/-! Pf11: short forms. -/
namespace Pf
open PySem PySem.Spec PyProof.Rows L2

theorem takes0 {X : Cx} : Takes X W0 := fun _ _ x => by
  obtain ⟨_, _, _, _, _, _, _, _, _, _, _, _, _, _, _, _, z⟩ := x
  exact z.elim
theorem u64 {k : Nat} {A : Around} (r : Room k A) : A.units + 64 < cLine := r.units
theorem u66 {k : Nat} {A : Around} (r : Room k A) : A.units + 66 < cLine := by have := r.un; omega
abbrev FnP (K : PySem.W.Frag) (x : Str) (st : Stmt) (f : Addr) (fd : FuncData) : Prop := FunD K x x (defArgs st) (defBody st) (defScope st) [] [] f fd
section
variable {P : Program} {w : World} {K : PySem.W.Frag} {mg : Str → Option Value} {base : Heap}
/-- THE RULE of a def: its body as a plain function of the slots -/
theorem fnD_ok {x : Str} {st : Stmt} {f : Addr} {fd : FuncData} {N ps : List Str} {n j k : Nat} {g : Ro → Out} (Fu : FnP K x st f fd) (S : FnScope N ps (defScope st)) (hn : ps.length = n) (hj : N.length - ps.length = j) (hle : ps.length ≤ N.length)
    (hbody : ∀ (cdv : Value) (A : Around) (outer : List Env) (s : Shared) (H : Hp) (E : XK), Room k (A.deeper (envOfC x (defScope st) s.heap.objs.size f cdv)) →
      PSs (cxOf (L2.CX P w) P w K mg base N x (defScope st) f cdv A outer s H E) (defBody st) (tS K mg (fun cls d _ H' => E cls d H') g)) : FnOk P w K mg base (L2.CX P w) (k + 1) f fd ps (spOf K mg n (mDef n j g)) := by
  refine FunD.ok Fu S (fun vs H Q E h => h.1.trans hn.symm) fun cdv A outer s H vs Q E hr hsp => ?_
  refine ⟨_, hbody cdv A outer s H E hr, ?_⟩
  obtain ⟨hl, F, ds, ht, r, p⟩ := hsp
  have hl2 : vs.length = ps.length := hl.trans hn.symm
  refine ⟨H, F, F, _, start_ste hl2 hle ht r, ?_⟩
  rw [hj]
  unfold mDef at p
  rw [if_pos (by rw [← r.length]; exact hl)] at p
  cases eg : g (ds.map .val ++ List.replicate j .un) with
  | nx ρ' => rw [eg] at p; exact fun σ' F' H' S' k => p F' H' .non ⟨S'.sub, S'.same, fun a h => (S'.reg a h).imp id fun z => ⟨z, S'.trk a h⟩⟩ .non
  | ret d => rw [eg] at p; exact fun v F' H' s r => p F' H' v s r
  | bk ρ' => rw [eg] at p; exact p.elim
  | ct ρ' => rw [eg] at p; exact p.elim
  | exc c k => rw [eg] at p; exact fun σ' H' dx C s e1 e2 => p H' dx C s e1 e2
  | bad => rw [eg] at p; exact p.elim
end

section
variable {X : Cx} {mg : Str → Option Value} {W : WX} {pos p : Pos} {e : Expr} {f : Ro → Res PyData}
theorem pf_1B (h : PE X e (tB X.K mg W f)) (hs : starEach [e] X.env = (false, eval e X.env) :: starEach [] X.env := by rfl) : PA X [e] (tABs X.K mg W (eCons f eNil)) := pf_consB h pf_nilB hs
theorem pf_len (hm : X.mg "len" = none) (h : PE X e (tB X.K mg W f)) (hg : Gl X "len" := by rfl) (hs : starEach [e] X.env = (false, eval e X.env) :: starEach [] X.env := by rfl) (hpl : (backTo pos (starEach [] X.env)).any (·.1) = false := by rfl) : PE X (.Call (.Name "len" p) [e] [] pos) (tF X.K mg W (e1 lenD (eCons f eNil))) :=
  pf_callB call_len sem_len hg hm (by rfl) (pf_1B h hs) (by decide) (by decide) hs hpl
theorem pf_abs (hm : X.mg "abs" = none) (h : PE X e (tB X.K mg W f)) (hg : Gl X "abs" := by rfl) (hs : starEach [e] X.env = (false, eval e X.env) :: starEach [] X.env := by rfl) (hpl : (backTo pos (starEach [] X.env)).any (·.1) = false := by rfl) : PE X (.Call (.Name "abs" p) [e] [] pos) (tF X.K mg W (e1 absD (eCons f eNil))) :=
  pf_callB call_abs sem_abs hg hm (by rfl) (pf_1B h hs) (by decide) (by decide) hs hpl
theorem pf_int1 (hm : X.mg "int" = none) (h : PE X e (tB X.K mg W f)) (hg : Gl X "int" := by rfl) (hs : starEach [e] X.env = (false, eval e X.env) :: starEach [] X.env := by rfl) (hpl : (backTo pos (starEach [] X.env)).any (·.1) = false := by rfl) : PE X (.Call (.Name "int" p) [e] [] pos) (tF X.K mg W (e1 intD (eCons f eNil))) :=
  pf_callTy call_int1 sem_int hg hm (by rfl) (pf_1B h hs) (by decide) (by decide) hs hpl
theorem pf_sum (hc : X.calm = true) (hm : X.mg "sum" = none) (h : PE X e (tB X.K mg W f)) (hg : Gl X "sum" := by rfl) (hs : starEach [e] X.env = (false, eval e X.env) :: starEach [] X.env := by rfl) (hpl : (backTo pos (starEach [] X.env)).any (·.1) = false := by rfl) : PE X (.Call (.Name "sum" p) [e] [] pos) (tF X.K mg W (e1 sumD (eCons f eNil))) :=
  pf_callB (cr_sum hc) sem_sum hg hm (by rfl) (pf_1B h hs) (by decide) (by decide) hs hpl
theorem pf_all (hc : X.calm = true) (hm : X.mg "all" = none) (h : PE X e (tB X.K mg W f)) (hg : Gl X "all" := by rfl) (hs : starEach [e] X.env = (false, eval e X.env) :: starEach [] X.env := by rfl) (hpl : (backTo pos (starEach [] X.env)).any (·.1) = false := by rfl) : PE X (.Call (.Name "all" p) [e] [] pos) (tF X.K mg W (e1 allD (eCons f eNil))) :=
  pf_callB (cr_all hc) sem_all hg hm (by rfl) (pf_1B h hs) (by decide) (by decide) hs hpl
theorem pf_any (hc : X.calm = true) (hm : X.mg "any" = none) (h : PE X e (tB X.K mg W f)) (hg : Gl X "any" := by rfl) (hs : starEach [e] X.env = (false, eval e X.env) :: starEach [] X.env := by rfl) (hpl : (backTo pos (starEach [] X.env)).any (·.1) = false := by rfl) : PE X (.Call (.Name "any" p) [e] [] pos) (tF X.K mg W (e1 anyD (eCons f eNil))) :=
  pf_callB (cr_any hc) sem_any hg hm (by rfl) (pf_1B h hs) (by decide) (by decide) hs hpl
theorem pf_max (hc : X.calm = true) (hm : X.mg "max" = none) (h : PE X e (tB X.K mg W f)) (hg : Gl X "max" := by rfl) (hs : starEach [e] X.env = (false, eval e X.env) :: starEach [] X.env := by rfl) (hpl : (backTo pos (starEach [] X.env)).any (·.1) = false := by rfl) : PE X (.Call (.Name "max" p) [e] [] pos) (tF X.K mg W (e1 maxD (eCons f eNil))) :=
  pf_callB (cr_max hc) sem_max hg hm (by rfl) (pf_1B h hs) (by decide) (by decide) hs hpl
theorem pf_min (hc : X.calm = true) (hm : X.mg "min" = none) (h : PE X e (tB X.K mg W f)) (hg : Gl X "min" := by rfl) (hs : starEach [e] X.env = (false, eval e X.env) :: starEach [] X.env := by rfl) (hpl : (backTo pos (starEach [] X.env)).any (·.1) = false := by rfl) : PE X (.Call (.Name "min" p) [e] [] pos) (tF X.K mg W (e1 minD (eCons f eNil))) :=
  pf_callB (cr_min hc) sem_min hg hm (by rfl) (pf_1B h hs) (by decide) (by decide) hs hpl
theorem pf_maxT (hc : X.calm = true) (hu : X.A.units + 66 < cLine) (hm : X.mg "max" = none) (h : PE X e (tB X.K mg W f)) (hg : Gl X "max" := by rfl) (hs : starEach [e] X.env = (false, eval e X.env) :: starEach [] X.env := by rfl) (hpl : (backTo pos (starEach [] X.env)).any (·.1) = false := by rfl) : PE X (.Call (.Name "max" p) [e] [] pos) (tF X.K mg W (e1 maxTD (eCons f eNil))) :=
  pf_callB (cr_maxT hc hu) sem_maxT hg hm (by rfl) (pf_1B h hs) (by decide) (by decide) hs hpl
theorem pf_minT (hc : X.calm = true) (hu : X.A.units + 66 < cLine) (hm : X.mg "min" = none) (h : PE X e (tB X.K mg W f)) (hg : Gl X "min" := by rfl) (hs : starEach [e] X.env = (false, eval e X.env) :: starEach [] X.env := by rfl) (hpl : (backTo pos (starEach [] X.env)).any (·.1) = false := by rfl) : PE X (.Call (.Name "min" p) [e] [] pos) (tF X.K mg W (e1 minTD (eCons f eNil))) :=
  pf_callB (cr_minT hc hu) sem_minT hg hm (by rfl) (pf_1B h hs) (by decide) (by decide) hs hpl
theorem pf_tuple (hm : X.mg "tuple" = none) (h : PE X e (tB X.K mg W f)) (hg : Gl X "tuple" := by rfl) (hs : starEach [e] X.env = (false, eval e X.env) :: starEach [] X.env := by rfl) (hpl : (backTo pos (starEach [] X.env)).any (·.1) = false := by rfl) : PE X (.Call (.Name "tuple" p) [e] [] pos) (tF X.K mg W (e1 tupleD (eCons f eNil))) :=
  pf_callTy call_tuple_of sem_tuple hg hm (by rfl) (pf_1B h hs) (by decide) (by decide) hs hpl
theorem pf_list (hm : X.mg "list" = none) (h : PE X e (tB X.K mg W f)) (hg : Gl X "list" := by rfl) (hs : starEach [e] X.env = (false, eval e X.env) :: starEach [] X.env := by rfl) (hpl : (backTo pos (starEach [] X.env)).any (·.1) = false := by rfl) : PE X (.Call (.Name "list" p) [e] [] pos) (tN X.K mg W (e1 listN (eCons f eNil))) :=
  pf_callTyN call_list_of sem_list hg hm (by rfl) (pf_1B h hs) (by decide) (by decide) hs hpl
theorem pf_sorted (hm : X.mg "sorted" = none) (h : PE X e (tB X.K mg W f)) (hg : Gl X "sorted" := by rfl) (hs : starEach [e] X.env = (false, eval e X.env) :: starEach [] X.env := by rfl) (hpl : (backTo pos (starEach [] X.env)).any (·.1) = false := by rfl) : PE X (.Call (.Name "sorted" p) [e] [] pos) (tN X.K mg W (e1 sortedN (eCons f eNil))) :=
  pf_callBN cr_sortedI sem_sorted hg hm (by rfl) (pf_1B h hs) (by decide) (by decide) hs hpl
variable {a b : Expr} {g h : Ro → Res PyData}
theorem pf_2B (ha : PE X a (tB X.K mg W g)) (hb : PE X b (tB X.K mg W h)) (hs : starEach [a, b] X.env = (false, eval a X.env) :: starEach [b] X.env := by rfl) (hs2 : starEach [b] X.env = (false, eval b X.env) :: starEach [] X.env := by rfl) : PA X [a, b] (tABs X.K mg W (eCons g (eCons h eNil))) := pf_consB ha (pf_consB hb pf_nilB hs2) hs
theorem pf_max2 (hc : X.calm = true) (hm : X.mg "max" = none) (ha : PE X a (tB X.K mg W g)) (hb : PE X b (tB X.K mg W h)) (hg : Gl X "max" := by rfl) (hs : starEach [a, b] X.env = (false, eval a X.env) :: starEach [b] X.env := by rfl) (hs2 : starEach [b] X.env = (false, eval b X.env) :: starEach [] X.env := by rfl) (hpl : (backTo pos (starEach [b] X.env)).any (·.1) = false := by rfl) :
    PE X (.Call (.Name "max" p) [a, b] [] pos) (tF X.K mg W (e1 max2D (eCons g (eCons h eNil)))) := pf_callB (call_max2 hc) sem_max2 hg hm (by rfl) (pf_2B ha hb hs hs2) (by decide) (by decide) hs hpl
theorem pf_min2 (hc : X.calm = true) (hm : X.mg "min" = none) (ha : PE X a (tB X.K mg W g)) (hb : PE X b (tB X.K mg W h)) (hg : Gl X "min" := by rfl) (hs : starEach [a, b] X.env = (false, eval a X.env) :: starEach [b] X.env := by rfl) (hs2 : starEach [b] X.env = (false, eval b X.env) :: starEach [] X.env := by rfl) (hpl : (backTo pos (starEach [b] X.env)).any (·.1) = false := by rfl) :
    PE X (.Call (.Name "min" p) [a, b] [] pos) (tF X.K mg W (e1 min2D (eCons g (eCons h eNil)))) := pf_callB (call_min2 hc) sem_min2 hg hm (by rfl) (pf_2B ha hb hs hs2) (by decide) (by decide) hs hpl
end
end Pf
/-! Pf12: the head's Hook: defs, names, the errors. -/
namespace Pf
open PySem PySem.Spec PyProof.Rows L2

def oexB (K : PySem.W.Frag) (C : Addr) : Bool := (match K.lookup C with
  | some ⟨.type "type", _, .cls cd, sl⟩ => (match cd.mro, sl.toList with
    | .ref C' :: bm, [_, _, _, _, some (.builtin n), _] => C' == C && n == "ValueError.__new__" && !cd.hasDel && cd.hasDict && PySem.HandSPX.refsVE bm
    | _, _ => false)
  | _ => false) && (decide (PySem.W.findIn K (.ref C) "__setattr__" = some (some (.builtin "object.__setattr__"))) && (decide (PySem.W.subIn K (.ref C) (.type "BaseException") = some true) && (decide (PySem.W.typeIn K (.ref C) = some (.type "type")) && PySem.W.keepIn K (.ref C))))
theorem oexB_ok {K : PySem.W.Frag} {C : Addr} (h : oexB K C = true) : OexC K C := by
  obtain ⟨h1, h⟩ := He.ba h
  obtain ⟨h2, h⟩ := He.ba h
  obtain ⟨h3, h⟩ := He.ba h
  obtain ⟨h4, h5⟩ := He.ba h
  refine ⟨?_, of_decide_eq_true h2, of_decide_eq_true h3, of_decide_eq_true h4, h5⟩
  split at h1
  · rename_i dd cd sl ho
    split at h1
    · rename_i C' bm k0 k1 k2 k3 n k5 hm hs
      simp only [Bool.and_eq_true, beq_iff_eq, Bool.not_eq_true'] at h1
      obtain ⟨⟨⟨⟨rfl, rfl⟩, hdel⟩, hdict⟩, ht⟩ := h1
      obtain ⟨nm, bs, mro, ns, qn, hd, sn, sub, ab, col, del⟩ := cd
      dsimp only at hm hdel hdict
      subst hm hdel hdict
      have hsl : sl = #[k0, k1, k2, k3, some (.builtin "ValueError.__new__"), k5] := by
        obtain ⟨l⟩ := sl
        simp only at hs
        rw [hs]
      subst hsl
      exact ⟨nm, qn, ns, bs, bm, sn, sub, ab, col, dd, k0, k1, k2, k3, k5, ho, ht⟩
    · cases h1
  · cases h1
/-- the first error class's __init__ -/
def iA (K : PySem.W.Frag) (D : Str) : Addr := He.ma K (He.ga K D) "__init__"
def cA (K : PySem.W.Frag) (D : Str) : Addr := match K.lookup (iA K D) with
  | some ⟨_, _, .func fd, _⟩ => (match fd.closure with
    | [(_, c)] => c
    | _ => 0)
  | _ => 0
abbrev InV : Type := Option (Str × Str × Arguments × FuncBody × Scope × Addr × List Str × Addr)
def inW (K : PySem.W.Frag) (D : Str) : InV := match K.lookup (iA K D) with
  | some ⟨_, _, .func fd, _⟩ => some (fd.name, fd.qualname, fd.params, fd.body, fd.scope, fd.globals, fd.closure.map (·.1), fd.builtins)
  | _ => none
def inVal (qual : Str) (st : Stmt) : InV := some ("__init__", qual, defArgs st, .stmts (defBody st), defScope st, mainGlobals, ["__class__"], builtinsNs)
def noneV : Value → Bool
  | .none => true
  | _ => false
def strV (file : Str) : Option Value → Bool
  | some (.str f _) => file == f
  | _ => false
def fldB (file : Str) : Option Obj → Bool
  | some ⟨_, _, .fields vs, _⟩ => strV file vs[2]?
  | _ => false
def codB (K : PySem.W.Frag) (file : Str) : Value → Bool
  | .ref cda => fldB file (K.lookup cda)
  | _ => false
def funB (K : PySem.W.Frag) (qual file : Str) : Option Obj → Bool
  | some ⟨_, _, .func fd, _⟩ => PySem.W.codeIn K fd.code qual && (noneV fd.defaults && codB K file fd.code)
  | _ => false
def celB (d : Addr) : Option Obj → Bool
  | some ⟨_, _, .cell (some (.ref D')), _⟩ => D' == d
  | _ => false
def inB (K : PySem.W.Frag) (D qual : Str) (file : Str) : Bool := PySem.W.keepIn K (.ref (iA K D)) && (funB K qual file (K.lookup (iA K D)) && (celB (He.ga K D) (K.lookup (cA K D)) && (PySem.W.clsIn K (He.ga K D)).isSome))
theorem celB_ok {d : Addr} {o : Option Obj} (h : celB d o = true) : ∃ (cl : Value) (cld : Option Addr) (csl : Array (Option Value)), o = some ⟨cl, cld, .cell (some (.ref d)), csl⟩ := by
  unfold celB at h
  split at h
  · rw [beq_iff_eq.mp h]; exact ⟨_, _, _, rfl⟩
  · cases h
theorem codB_ok {K : PySem.W.Frag} {file : Str} {v : Value} (h : codB K file v = true) : ∃ cda ccl cdd vs ccs f t, v = .ref cda ∧ K.lookup cda = some ⟨ccl, cdd, .fields vs, ccs⟩ ∧ vs[2]? = some (.str f t) ∧ (file == f) = true := by
  unfold codB at h
  split at h
  · rename_i cda
    unfold fldB at h
    split at h
    · rename_i vs _ e
      unfold strV at h
      split at h
      · rename_i f t e2
        exact ⟨cda, _, _, _, _, f, t, rfl, e, e2, h⟩
      · cases h
    · cases h
  · cases h
theorem inB_ok {P : Program} {K : PySem.W.Frag} {mg : Str → Option Value} {D qual : Str} {st : Stmt} (h : inB K D qual P.main.file = true) (e : inW K D = inVal qual st) (hs : mg "super" = none) (ht : (P.main.scope.names.lookup ("super" : Str)).isSome = false) : ∃ fd, InitF P K mg qual st (iA K D) fd (He.ga K D) (cA K D) := by
  obtain ⟨h1, h⟩ := He.ba h
  obtain ⟨h2, h⟩ := He.ba h
  obtain ⟨h3, h4⟩ := He.ba h
  have hc := celB_ok h3
  have hcl : ∃ cd, PySem.W.clsIn K (He.ga K D) = some cd := Option.isSome_iff_exists.mp h4
  unfold inW at e
  have hcA : cA K D = (match K.lookup (iA K D) with
    | some ⟨_, _, .func fd, _⟩ => (match fd.closure with
      | [(_, c)] => c
      | _ => 0)
    | _ => 0) := rfl
  cases q : K.lookup (iA K D) with
  | none => rw [q] at h2; cases h2
  | some o =>
    obtain ⟨oc, od, dt, osl⟩ := o
    rw [q] at h2 e hcA
    cases dt with
    | func fd =>
      obtain ⟨n1, n2, n3, n4, n5, n6, n7, n8, n9, n10, n11, n12, n13, n14, n15⟩ := fd
      have e2 : (some (n1, n2, n3, n4, n5, n6, n7.map (·.1), n15) : InV) = inVal qual st := e
      unfold inVal at e2
      simp only [Option.some.injEq, Prod.mk.injEq] at e2
      obtain ⟨g1, g2, g3, g4, g5, g6, g7, g8⟩ := e2
      subst g1 g2 g3 g4 g5 g6 g8
      obtain ⟨c, rfl⟩ : ∃ c : Addr, n7 = [(("__class__" : Str), c)] := by
        match n7, g7 with
        | [(x, c)], g7 =>
          have : x = ("__class__" : Str) := by simpa using g7
          rw [this]
          exact ⟨c, rfl⟩
      have hcA : cA K D = c := hcA
      have h2 : (PySem.W.codeIn K n13 n2 && (noneV n8 && codB K P.main.file n13)) = true := h2
      obtain ⟨k1, k2⟩ := He.ba h2
      obtain ⟨k3, k4⟩ := He.ba k2
      have e8 : n8 = .none := by
        unfold noneV at k3
        split at k3
        · rfl
        · cases k3
      obtain ⟨cda, ccl, cdd, vs, ccs, f, t, rfl, q2, q3, q4⟩ := codB_ok k4
      subst e8
      exact ⟨_, ⟨oc, od, n9, n10, n11, n12, cda, n14, osl, ccl, cdd, vs, ccs, f, t, by rw [hcA], q, k1, q2, q3, q4⟩, h1, hc, hcl, hs, ht⟩
    | _ => cases h2
def exOkB (K : PySem.W.Frag) (D C : Str) : Bool := oexB K (He.ga K C) && (decide (PySem.W.findIn K (.ref (He.ga K C)) "__init__" = some (some (.ref (iA K D)))) && (decide (PySem.W.findIn K (.ref (He.ga K C)) "at" = some none) &&
  (decide (PySem.W.mroIn K (He.ga K C) (.ref (He.ga K D)) = some true) && (decide (PySem.W.ks_superIn K (He.ga K C) (He.ga K D) "__init__" = some (some (.builtin "ValueError.__init__"))) &&
  (decide (PySem.W.subIn K (.ref (He.ga K C)) (.type "ValueError") = some true) && (decide (PySem.W.nsIn K cStatics "thirdparty.any" = some none) && (decide (PySem.W.typeIn K (.ref (iA K D)) = some (.type "function")) && xfB K (He.ga K C))))))))
theorem exOkB_ok {K : PySem.W.Frag} {D C : Str} (h : exOkB K D C = true) : ExcOk K (He.ga K D) (iA K D) (He.ga K C) ∧ XfC K (He.ga K C) := by
  obtain ⟨h1, h⟩ := He.ba h
  obtain ⟨h2, h⟩ := He.ba h
  obtain ⟨h3, h⟩ := He.ba h
  obtain ⟨h4, h⟩ := He.ba h
  obtain ⟨h5, h⟩ := He.ba h
  obtain ⟨h6, h⟩ := He.ba h
  obtain ⟨h7, h⟩ := He.ba h
  obtain ⟨h8, h9⟩ := He.ba h
  exact ⟨⟨oexB_ok h1, of_decide_eq_true h2, of_decide_eq_true h3, of_decide_eq_true h4, of_decide_eq_true h5, of_decide_eq_true h6, of_decide_eq_true h7, of_decide_eq_true h8⟩, xfB_ok h9⟩

/-- nothing let out at the end -/
theorem fn_close {P : Program} {w : World} {K : PySem.W.Frag} {mg : Str → Option Value} {base : Heap} {k : Nat} {f : Addr} {fd : FuncData} {ps : List Str} {sp : Sp} (F : FnOk P w K mg base (L2.CX P w) k f fd ps sp) : FnOk P w K mg base CX0 k f fd ps (fun vs H Q _ => sp vs H Q (fun _ _ _ => False)) := by
  refine ⟨fun vs H Q E h => F.len vs H Q _ h, fun A outer s H args us vs Q E hr e0 hb r h => ?_⟩
  refine codeAny_mono (F.run A outer s H args us vs Q (fun _ _ _ => False) hr e0 hb r h) fun r s' hq => ?_
  cases r with
  | error e =>
    obtain ⟨_, _, _, _, _, _, _, _, _, _, _, _, z⟩ := hq
    exact z.elim
  | ok fl => cases fl <;> exact hq
/-- the law's script -/
theorem Rp_scr {K : PySem.W.Frag} {H : Hp} {a : Addr} {ns : List Int} (hO : Only H) (h : SqL K H a (ns.map V.int)) : ∃ F : Rg, (∀ b, F b → H b ≠ none) ∧ Rp K F H (.ref a) (scr ns) := by
  rcases h with (h | ⟨o, h⟩) | h
  · rcases hO a with z | ⟨o, xs, z⟩
    · rw [z] at h; cases h
    · rw [z] at h; cases h
  · exact ⟨fun b => b = a, fun b e => by rw [e, h]; simp, .scr rfl h⟩
  · exact ⟨fun _ => False, fun _ z => z.elim, .scrK h⟩
theorem sp_law {K : PySem.W.Frag} {mg : Str → Option Value} {m : List PyData → Res PyData} {n : Nat} (hm : ∀ ns : List Int, ns.length ≤ n → m [scr ns] = .ok (.bool true)) (H : Hp) (a : Addr) (ns : List Int) (hl : ns.length ≤ n) (hO : Only H) (h : SqL K H a (ns.map V.int)) :
    (fun vs H Q (_ : XK) => spOf K mg 1 m vs H Q (fun _ _ _ => False)) [.ref a] H (fun v _ => v = .bl true) (fun _ _ _ => False) := by
  obtain ⟨F, ht, r⟩ := Rp_scr hO h
  refine ⟨rfl, F, [scr ns], ht, .cons r .nil, ?_⟩
  rw [hm ns hl]
  exact fun F' H' v _ rv => (RpB.rp rv).bool'

/-! ### the Hook: names, defs, D the class with the __init__, cs the classes raised, pairs of classes caught -/
structure Wt where
  fa : List He.Fa
  fn : List He.DefD
  D : Str
  qual : Str
  st : Stmt
  file : Str
  cs : List Str
  ex : List (Str × Str × Bool)
abbrev AlP : Type := He.AlD × Bool × InV
def obsP (t : Wt) (K : PySem.W.Frag) : AlP := (He.obsD t.fa t.fn K, inB K t.D t.qual t.file && (t.cs.all (fun c => exOkB K t.D c) && t.ex.all fun e => (He.Fa.exm e.1 e.2.1 e.2.2).ok K), inW K t.D)
def valP (t : Wt) : AlP := (He.valD t.fn, true, inVal t.qual t.st)
def SaysP (t : Wt) (K : PySem.W.Frag) : Prop := obsP t K = valP t
/-- what is reached: also the object that holds what stands in no name -/
def asP (g : Addr → Option Obj) (n : Nat) : List Addr := cStatics :: He.asD g n
def obsPG (n : Nat) (t : Wt) (g : Addr → Option Obj) : AlP := obsP t (He.frG g (asP g n))
def hookP (n : Nat) (t : Wt) : PySem.W.Hook where
  α := AlP
  obs := fun s => obsPG n t s.heap.get?
  val := fun _ => valP t
  says := fun _ h => ∃ K : PySem.W.Frag, K.In h ∧ SaysP t K
  of := fun _ _ e => ⟨_, He.frG_in, e⟩
  keeps := fun _ _ _ ⟨K, hK, c⟩ k => ⟨K, PySem.W.Frag.In.keeps hK k, c⟩
theorem obsPG_eq {n : Nat} {t : Wt} {g : Addr → Option Obj} {s : Shared} (h : ∀ a, g a = s.heap.get? a) : obsPG n t g = (hookP n t).obs s := by
  have e : g = s.heap.get? := funext h
  rw [e] <;> rfl
section
variable {t : Wt} {K : PySem.W.Frag}
theorem SaysP.d (c : SaysP t K) : He.SaysD t.fa t.fn K := congrArg (fun z : AlP => z.1) c
theorem SaysP.b (c : SaysP t K) : inB K t.D t.qual t.file = true ∧ (∀ x ∈ t.cs, exOkB K t.D x = true) ∧ ∀ e ∈ t.ex, (He.Fa.exm e.1 e.2.1 e.2.2).ok K = true := by
  obtain ⟨h1, h⟩ := He.ba (show (inB K t.D t.qual t.file && (t.cs.all (fun c => exOkB K t.D c) && t.ex.all fun e => (He.Fa.exm e.1 e.2.1 e.2.2).ok K)) = true from congrArg (fun z : AlP => z.2.1) c)
  obtain ⟨h2, h3⟩ := He.ba h
  exact ⟨h1, List.all_eq_true.mp h2, List.all_eq_true.mp h3⟩
theorem SaysP.i (c : SaysP t K) : inW K t.D = inVal t.qual t.st := congrArg (fun z : AlP => z.2.2) c
end
end Pf
/-! Pf13: mirrors reckoned. -/
namespace Pf
open PySem PySem.Spec PyProof.Rows L2

section
variable {α β γ : Type}
@[simp] theorem mDef_eq (n j : Nat) (g : Ro → Out) (ds : List PyData) : mDef n j g ds = if ds.length = n then outR (g (ds.map .val ++ List.replicate j .un)) else .bad := rfl
@[simp] theorem sSeq_eq (g h : Ro → Out) (ρ : Ro) : sSeq g h ρ = (g ρ).seq h := rfl
@[simp] theorem sPass_eq (ρ : Ro) : sPass ρ = .nx ρ := rfl
@[simp] theorem sSet_eq (i : Nat) (f : Ro → Res PyData) (ρ : Ro) : sSet i f ρ = (f ρ).out fun d => .nx (ρ.set i (.val d)) := rfl
@[simp] theorem sSetN_eq (i : Nat) (f : Ro → Res (List PyData)) (ρ : Ro) : sSetN i f ρ = (f ρ).out fun d => .nx (ρ.set i (.own d)) := rfl
@[simp] theorem sAsg_eq (g : PyData → Ro → Option Ro) (f : Ro → Res PyData) (ρ : Ro) : sAsg g f ρ = (f ρ).out fun d => oNx (g d ρ) := rfl
@[simp] theorem sExpr_eq (f : Ro → Res PyData) (ρ : Ro) : sExpr f ρ = (f ρ).out fun _ => .nx ρ := rfl
@[simp] theorem sRet_eq (f : Ro → Res PyData) (ρ : Ro) : sRet f ρ = (f ρ).out .ret := rfl
@[simp] theorem sRetN_eq (ρ : Ro) : sRetN ρ = .ret .none := rfl
@[simp] theorem sIf_eq (c : Ro → Res Bool) (g h : Ro → Out) (ρ : Ro) : sIf c g h ρ = (c ρ).out fun b => if b = true then g ρ else h ρ := rfl
@[simp] theorem sFor_eq (fi : Ro → Res (List PyData)) (g : PyData → Ro → Option Ro) (b : Ro → Out) (ρ : Ro) : sFor fi g b ρ = (fi ρ).out fun ds => forF g b ds ρ := rfl
@[simp] theorem sWhile_eq (n : Nat) (c : Ro → Res Bool) (b : Ro → Out) (ρ : Ro) : sWhile n c b ρ = whF c b n ρ := rfl
@[simp] theorem sFrz_eq (is : List Nat) (g : Ro → Out) (ρ : Ro) : sFrz is g ρ = g (frz is ρ) := rfl
@[simp] theorem frz_nil (ρ : Ro) : frz [] ρ = ρ := rfl
@[simp] theorem frz_cons (i : Nat) (is : List Nat) (ρ : Ro) : frz (i :: is) ρ = frz is (frz1 i ρ) := rfl
@[simp] theorem frz1_own {i : Nat} {ρ : Ro} {ds : List PyData} (h : ρ[i]? = some (.own ds)) : frz1 i ρ = ρ.set i (.val (.list ds)) := by unfold frz1; rw [h]
@[simp] theorem frz1_val {i : Nat} {ρ : Ro} {d : PyData} (h : ρ[i]? = some (.val d)) : frz1 i ρ = ρ := by unfold frz1; rw [h]
@[simp] theorem sParM_eq (is : List Nat) (fs : Ro → Res (List Ent)) (ρ : Ro) : sParM is fs ρ = (fs ρ).out fun es => if es.length = is.length then .nx (setE ρ is es) else .bad := rfl
@[simp] theorem mNil_eq (ρ : Ro) : mNil ρ = .ok [] := rfl
@[simp] theorem mVal_eq (f : Ro → Res PyData) (g : Ro → Res (List Ent)) (ρ : Ro) : mVal f g ρ = (f ρ).bind fun d => (g ρ).bind fun es => .ok (.val d :: es) := rfl
@[simp] theorem mOwn_eq (f : Ro → Res (List PyData)) (g : Ro → Res (List Ent)) (ρ : Ro) : mOwn f g ρ = (f ρ).bind fun d => (g ρ).bind fun es => .ok (.own d :: es) := rfl
@[simp] theorem setE_nil (ρ : Ro) (es : List Ent) : setE ρ [] es = ρ := by cases es <;> rfl
@[simp] theorem setE_cons (ρ : Ro) (i : Nat) (is : List Nat) (e : Ent) (es : List Ent) : setE ρ (i :: is) (e :: es) = setE (ρ.set i e.sl) is es := rfl
@[simp] theorem Ent.sl_val (d : PyData) : (Ent.val d).sl = .val d := rfl
@[simp] theorem Ent.sl_own (d : List PyData) : (Ent.own d).sl = .own d := rfl
@[simp] theorem sApp_eq {i : Nat} {ρ : Ro} {ds : List PyData} (f : Ro → Res PyData) (h : ρ[i]? = some (.own ds)) : sApp i f ρ = (f ρ).out fun d => if ds.length < 16777216 then .nx (ρ.set i (.own (ds ++ [d]))) else .bad := by unfold sApp; rw [h]
@[simp] theorem sRaise_eq (c : Str) (f : Ro → Res PyData) (ρ : Ro) (k : Int) (h : f ρ = .ok (.int k)) : sRaise c f ρ = .exc c k := by unfold sRaise; rw [h]; rfl
@[simp] theorem eVar_val {i : Nat} {ρ : Ro} {d : PyData} (h : ρ[i]? = some (.val d)) : eVar i ρ = .ok d := by unfold eVar; rw [h]
@[simp] theorem eVarB_val {i : Nat} {ρ : Ro} {d : PyData} (h : ρ[i]? = some (.val d)) : eVarB i ρ = .ok d := by unfold eVarB; rw [h]
@[simp] theorem eVarB_own {i : Nat} {ρ : Ro} {d : List PyData} (h : ρ[i]? = some (.own d)) : eVarB i ρ = .ok (.list d) := by unfold eVarB; rw [h]
@[simp] theorem eC_eq (d : PyData) (ρ : Ro) : eC d ρ = .ok d := rfl
@[simp] theorem e1_eq (s : α → Option β) (f : Ro → Res α) (ρ : Ro) : e1 s f ρ = (f ρ).bind fun d => ofO (s d) := rfl
@[simp] theorem e2_eq (s : α → β → Option γ) (f : Ro → Res α) (g : Ro → Res β) (ρ : Ro) : e2 s f g ρ = (f ρ).bind fun d => (g ρ).bind fun e => ofO (s d e) := rfl
@[simp] theorem eNil_eq (ρ : Ro) : eNil ρ = .ok [] := rfl
@[simp] theorem eCons_eq (f : Ro → Res PyData) (g : Ro → Res (List PyData)) (ρ : Ro) : eCons f g ρ = (f ρ).bind fun d => (g ρ).bind fun ds => .ok (d :: ds) := rfl
@[simp] theorem eStar_eq (f : Ro → Res PyData) (g : Ro → Res (List PyData)) (ρ : Ro) : eStar f g ρ = (f ρ).bind fun d => (ofO (itL d)).bind fun xs => (g ρ).bind fun ds => .ok (xs ++ ds) := rfl
@[simp] theorem eIf_eq (c : Ro → Res Bool) (f g : Ro → Res α) (ρ : Ro) : eIf c f g ρ = (c ρ).bind fun b => if b = true then f ρ else g ρ := rfl
@[simp] theorem eAnd_eq (c d : Ro → Res Bool) (ρ : Ro) : eAnd c d ρ = (c ρ).bind fun b => if b = true then d ρ else .ok false := rfl
@[simp] theorem eOr_eq (c d : Ro → Res Bool) (ρ : Ro) : eOr c d ρ = (c ρ).bind fun b => if b = true then .ok true else d ρ := rfl
@[simp] theorem eNot_eq (c : Ro → Res Bool) (ρ : Ro) : eNot c ρ = (c ρ).bind fun b => .ok (!b) := rfl
@[simp] theorem eCall_eq (m : List PyData → Res PyData) (fs : Ro → Res (List PyData)) (ρ : Ro) : eCall m fs ρ = (fs ρ).bind m := rfl
@[simp] theorem eBool_eq (c : Ro → Res Bool) (ρ : Ro) : eBool c ρ = (c ρ).bind fun b => .ok (.bool b) := rfl
@[simp] theorem eChain_eq (s s' : PyData → PyData → Option PyData) (f g h : Ro → Res PyData) (ρ : Ro) : eChain s s' f g h ρ = (f ρ).bind fun d => (g ρ).bind fun e => (ofO ((s d e).bind asB)).bind fun k => if k = true then (h ρ).bind fun u => ofO ((s' e u).bind asB) else .ok false := rfl
@[simp] theorem eSl_eq (s : PyData → Option Int → Option Int → Option β) (f : Ro → Res PyData) (l u : Ro → Res (Option Int)) (ρ : Ro) : eSl s f l u ρ = (f ρ).bind fun d => (l ρ).bind fun i => (u ρ).bind fun j => ofO (s d i j) := rfl
@[simp] theorem eNone_eq (ρ : Ro) : eNone ρ = .ok none := rfl
@[simp] theorem eComp_eq (own : List Nat) (fi : Ro → Res (List PyData)) (g : PyData → Ro → Option Ro) (c : Ro → Res Bool) (f : Ro → Res PyData) (ρ : Ro) : eComp own fi g c f ρ = (fi ρ).bind fun ds => ofO (compF g c f (wipeR ρ own) ds) := rfl
@[simp] theorem eTrue_eq (ρ : Ro) : eTrue ρ = .ok true := rfl
@[simp] theorem wipeR_nil (ρ : Ro) : wipeR ρ [] = ρ := rfl
@[simp] theorem wipeR_cons (ρ : Ro) (i : Nat) (is : List Nat) : wipeR ρ (i :: is) = (wipeR ρ is).set i .un := rfl
@[simp] theorem gSet_eq (i : Nat) (d : PyData) (ρ : Ro) : gSet i d ρ = some (ρ.set i (.val d)) := rfl
@[simp] theorem gsNil_eq (ρ : Ro) : gsNil [] ρ = some ρ := rfl
@[simp] theorem gsCons_eq (g : PyData → Ro → Option Ro) (gs : List PyData → Ro → Option Ro) (d : PyData) (ds : List PyData) (ρ : Ro) : gsCons g gs (d :: ds) ρ = (g d ρ).bind (gs ds) := rfl
@[simp] theorem gUnp_tuple (gs : List PyData → Ro → Option Ro) (ds : List PyData) (ρ : Ro) : gUnp gs (.tuple ds) ρ = gs ds ρ := rfl
@[simp] theorem gUnp_list (gs : List PyData → Ro → Option Ro) (ds : List PyData) (ρ : Ro) : gUnp gs (.list ds) ρ = gs ds ρ := rfl
@[simp] theorem asB_bool (b : Bool) : asB (.bool b) = some b := rfl
@[simp] theorem asI_int (i : Int) : asI (.int i) = some (some i) := rfl
@[simp] theorem itL_list (xs : List PyData) : itL (.list xs) = some xs := rfl
@[simp] theorem itL_tuple (xs : List PyData) : itL (.tuple xs) = some xs := rfl
@[simp] theorem listL_list (xs : List PyData) : listL (.list xs) = some xs := rfl
@[simp] theorem listD_eq (xs : List PyData) : listD xs = some (.list xs) := rfl
@[simp] theorem tupD_eq (xs : List PyData) : tupD xs = some (.tuple xs) := rfl
@[simp] theorem listN_list (xs : List PyData) : listN [.list xs] = some xs := rfl
@[simp] theorem lenD_list (xs : List PyData) : lenD [.list xs] = some (.int xs.length) := rfl
@[simp] theorem lenD_tuple (xs : List PyData) : lenD [.tuple xs] = some (.int xs.length) := rfl
@[simp] theorem lenD_scr (ns : List Int) : lenD [scr ns] = some (.int ns.length) := by simp [lenD]
@[simp] theorem absD_int (i : Int) : absD [.int i] = some (.int i.natAbs) := by
  show some (PyData.int (if i < 0 then -i else i)) = _
  congr 2; split <;> omega
@[simp] theorem intD_int (i : Int) : intD [.int i] = some (.int i) := rfl
@[simp] theorem intD_bool (i : Bool) : intD [.bool i] = some (.int (if i then 1 else 0)) := rfl
@[simp] theorem max2D_int (i j : Int) : max2D [.int i, .int j] = some (.int (max i j)) := by
  show some (PyData.int (if j > i then j else i)) = _
  congr 2; split <;> omega
@[simp] theorem min2D_int (i j : Int) : min2D [.int i, .int j] = some (.int (min i j)) := by
  show some (PyData.int (if j < i then j else i)) = _
  congr 2; split <;> omega
@[simp] theorem addD_int (a b : Int) : addD (.int a) (.int b) = some (.int (a + b)) := rfl
@[simp] theorem subD_int (a b : Int) : subD (.int a) (.int b) = some (.int (a - b)) := rfl
theorem mulD_int {a b : Int} (h : okMul a b = true) : mulD (.int a) (.int b) = some (.int (a * b)) := by simp [mulD, h]
@[simp] theorem negD_int (a : Int) : negD (.int a) = some (.int (-a)) := rfl
@[simp] theorem modD_int {a b : Int} (h : 0 < b) : modD (.int a) (.int b) = some (.int (a % b)) := by simp [modD, h]
theorem divD_int {a b : Int} (h : 0 < b) (h2 : b.natAbs.log2 < 9000) : divD (.int a) (.int b) = some (.int (a / b)) := by simp [divD, h, h2]
@[simp] theorem ltD_int (a b : Int) : ltD (.int a) (.int b) = some (.bool (decide (a < b))) := rfl
@[simp] theorem leD_int (a b : Int) : leD (.int a) (.int b) = some (.bool (decide (a ≤ b))) := rfl
@[simp] theorem gtD_int (a b : Int) : gtD (.int a) (.int b) = some (.bool (decide (b < a))) := rfl
@[simp] theorem geD_int (a b : Int) : geD (.int a) (.int b) = some (.bool (decide (b ≤ a))) := rfl
@[simp] theorem ixD_list (xs : List PyData) (i : Int) : ixD (.list xs) (.int i) = atI xs i := rfl
@[simp] theorem ixD_tuple (xs : List PyData) (i : Int) : ixD (.tuple xs) (.int i) = atI xs i := rfl
@[simp] theorem ixD_scr (ns : List Int) (i : Int) : ixD (scr ns) (.int i) = (atI ns i).map .int := by
  show atI ((ns.map fun n => (PyData.none, PyData.int n)).map (·.2)) i = _
  have : (ns.map fun n => (PyData.none, PyData.int n)).map (·.2) = ns.map PyData.int := by simp [List.map_map, Function.comp_def]
  rw [this]
  unfold atI
  simp [List.getElem?_map]
  cases ixN ns.length i <;> simp
@[simp] theorem atI_map {δ : Type} (f : α → δ) (xs : List α) (i : Int) : atI (xs.map f) i = (atI xs i).map f := by
  unfold atI
  simp [List.getElem?_map]
  cases ixN xs.length i <;> simp
theorem atI_nat (xs : List α) (k : Nat) : atI xs (k : Int) = xs[k]? := by
  unfold atI ixN
  rw [if_pos (by omega)]
  by_cases h : k < xs.length
  · rw [if_pos (by omega)]
    simp
  · rw [if_neg (by omega), List.getElem?_eq_none (by omega)]
    rfl
@[simp] theorem atI_0 (xs : List α) : atI xs 0 = xs[0]? := atI_nat xs 0
@[simp] theorem atI_1 (xs : List α) : atI xs 1 = xs[1]? := atI_nat xs 1
@[simp] theorem atI_2 (xs : List α) : atI xs 2 = xs[2]? := atI_nat xs 2
@[simp] theorem atI_3 (xs : List α) : atI xs 3 = xs[3]? := atI_nat xs 3
theorem atI_at {xs : List α} {i : Int} {x : α} (h0 : 0 ≤ i) (h : xs[i.toNat]? = some x) : atI xs i = some x := by
  have := atI_nat xs i.toNat
  rw [Int.toNat_of_nonneg h0] at this
  rw [this, h]
/-- a loop that goes on from state to state -/
theorem forF_run {σ : Type} (st : σ → Ro) {g : PyData → Ro → Option Ro} {b : Ro → Out} (step : σ → PyData → σ) (P : σ → Prop) : ∀ (ds : List PyData) (a : σ), P a →
    (∀ a d, P a → d ∈ ds → P (step a d) ∧ ∃ ρ, g d (st a) = some ρ ∧ (b ρ = .nx (st (step a d)) ∨ b ρ = .ct (st (step a d)))) → forF g b ds (st a) = .nx (st (ds.foldl step a))
  | [], a, _, _ => rfl
  | d :: ds, a, hP, h => by
    obtain ⟨h1, ρ, h2, h3⟩ := h a d hP (List.mem_cons_self ..)
    unfold forF
    rw [h2]
    have ih := forF_run st step P ds (step a d) h1 fun a d' q hd => h a d' q (List.mem_cons_of_mem _ hd)
    rcases h3 with h3 | h3 <;> simp [h3, ih]
theorem forF_inv {g : PyData → Ro → Option Ro} {b : Ro → Out} (I : Nat → Ro → Prop) : ∀ (ds : List PyData) (i : Nat) (ρ : Ro), I i ρ →
    (∀ (j : Nat) (d : PyData) (ρ : Ro), ds[j]? = some d → I (i + j) ρ → ∃ ρ1 ρ2, g d ρ = some ρ1 ∧ (b ρ1 = .nx ρ2 ∨ b ρ1 = .ct ρ2) ∧ I (i + j + 1) ρ2) → ∃ ρ', forF g b ds ρ = .nx ρ' ∧ I (i + ds.length) ρ'
  | [], i, ρ, h, _ => ⟨ρ, rfl, h⟩
  | d :: ds, i, ρ, h, hs => by
    obtain ⟨ρ1, ρ2, h1, h2, h3⟩ := hs 0 d ρ rfl h
    obtain ⟨ρ', h4, h5⟩ := forF_inv I ds (i + 1) ρ2 h3 fun j d' ρ q hI => by
      have := hs (j + 1) d' ρ (by simpa using q) (by rw [show i + (j + 1) = i + 1 + j by omega]; exact hI)
      rw [show i + 1 + j + 1 = i + (j + 1) + 1 by omega]
      exact this
    refine ⟨ρ', ?_, by rw [show i + (d :: ds).length = i + 1 + ds.length by simp; omega]; exact h5⟩
    unfold forF
    rw [h1]
    rcases h2 with h2 | h2 <;> simp [h2, h4]
/-- a comprehension over what is told -/
theorem compF_map {ι : Type} (toD : ι → PyData) {g : PyData → Ro → Option Ro} {c : Ro → Res Bool} {f : Ro → Res PyData} {ρ : Ro} (p : ι → Bool) (h : ι → PyData) : ∀ (xs : List ι),
    (∀ x ∈ xs, ∃ ρ1, g (toD x) ρ = some ρ1 ∧ c ρ1 = .ok (p x) ∧ (p x = true → f ρ1 = .ok (h x))) → compF g c f ρ (xs.map toD) = some ((xs.filter p).map h)
  | [], _ => rfl
  | x :: xs, hx => by
    obtain ⟨ρ1, h1, h2, h3⟩ := hx x (List.mem_cons_self ..)
    have ih := compF_map toD p h xs fun y hy => hx y (List.mem_cons_of_mem _ hy)
    rw [List.map_cons]
    unfold compF
    rw [h1]
    cases hp : p x with
    | true => simp [h2, hp, h3 hp, ih]
    | false => simp [h2, hp, ih]
theorem compF_all {ι : Type} (toD : ι → PyData) {g : PyData → Ro → Option Ro} {f : Ro → Res PyData} {ρ : Ro} (h : ι → PyData) (xs : List ι)
    (hx : ∀ x ∈ xs, ∃ ρ1, g (toD x) ρ = some ρ1 ∧ f ρ1 = .ok (h x)) : compF g eTrue f ρ (xs.map toD) = some (xs.map h) := by
  have := compF_map toD (c := eTrue) (ρ := ρ) (fun _ => true) h xs fun x hm => let ⟨ρ1, a, b⟩ := hx x hm; ⟨ρ1, a, rfl, fun _ => b⟩
  rw [this, List.filter_eq_self.mpr fun _ _ => rfl]
@[simp] theorem rg1_int (n : Int) (h : -4611686018427387904 ≤ n) (h2 : n ≤ 16777216) : rg1 [.int n] = some (rngL 0 n.toNat) := by
  show (if -4611686018427387904 ≤ n ∧ n ≤ 16777216 then some (rngL 0 n.toNat) else none) = _
  rw [if_pos ⟨h, h2⟩]
theorem rg2_int (i j : Int) (h1 : -4611686018427387904 ≤ i) (h2 : i < 4611686018427387904) (h3 : -4611686018427387904 ≤ j) (h4 : j < 4611686018427387904) (h5 : j - i ≤ 16777216) : rg2 [.int i, .int j] = some (rngL i (j - i).toNat) := by
  show (if _ then _ else _) = _
  rw [if_pos ⟨h1, h2, h3, h4, h5⟩]
theorem rngL_0 (n : Nat) : rngL 0 n = (List.range n).map fun i => PyData.int (i : Nat) := by
  unfold rngL
  simp
@[simp] theorem sumD_ints (ns : List Int) : sumD [.list (ns.map .int)] = some (.int ns.sum) := by
  show (intsO (ns.map PyData.int)).map (fun ns => PyData.int ns.sum) = _
  rw [intsO_map]
  rfl
@[simp] theorem maxD_ints (ns : List Int) : maxD [.list (ns.map .int)] = (maxL ns).map PyData.int := by
  show (intsO (ns.map PyData.int)).bind (fun ns => (maxL ns).map PyData.int) = _
  rw [intsO_map]
  rfl
@[simp] theorem minD_ints (ns : List Int) : minD [.list (ns.map .int)] = (minL ns).map PyData.int := by
  show (intsO (ns.map PyData.int)).bind (fun ns => (minL ns).map PyData.int) = _
  rw [intsO_map]
  rfl
@[simp] theorem allD_bools (ns : List Bool) : allD [.list (ns.map .bool)] = some (.bool (ns.all id)) := by
  show (boolsO (ns.map PyData.bool)).map (fun bs => PyData.bool (bs.all id)) = _
  rw [boolsO_map]
  rfl
theorem forF_nil (g : PyData → Ro → Option Ro) (b : Ro → Out) (ρ : Ro) : forF g b [] ρ = .nx ρ := rfl
end
/-! ### slices -/
section
variable {α : Type}
@[simp] theorem slT_list (xs : List PyData) (i j : Option Int) : slT (.list xs) i j = some (.list (cutD xs i j)) := rfl
@[simp] theorem slL_list (xs : List PyData) (i j : Option Int) : slL (.list xs) i j = some (cutD xs i j) := rfl
theorem cut_from (xs : List PyData) (k : Nat) : cutD xs (some (k : Int)) none = xs.drop k := by
  unfold cutD
  rw [HT.sIx_nat, HT.sIx_none]
  by_cases h : k ≤ xs.length
  · rw [Nat.min_eq_left h, List.take_of_length_le (by simp)]
  · rw [Nat.min_eq_right (by omega), List.drop_of_length_le (Nat.le_refl _), List.drop_of_length_le (by omega)]
    simp
theorem cut_to (xs : List PyData) (k : Nat) : cutD xs none (some (k : Int)) = xs.take k := by
  unfold cutD
  rw [HT.sIx_nat, HT.sIx_none, List.drop_zero, Nat.sub_zero]
  by_cases h : k ≤ xs.length
  · rw [Nat.min_eq_left h]
  · rw [Nat.min_eq_right (by omega), List.take_of_length_le (Nat.le_refl _), List.take_of_length_le (by omega)]
theorem cut_m2 (l : List PyData) (a b : PyData) : cutD (l ++ [a, b]) (some (-2)) none = [a, b] := by
  unfold cutD
  have e : HT.sIx (l ++ [a, b]).length 0 (some (-2)) = l.length := by
    show (if (-2 : Int) < 0 then ((-2 : Int) + ((l ++ [a, b]).length : Int)).toNat else min (-2 : Int).toNat (l ++ [a, b]).length) = _
    rw [if_pos (by decide)]
    simp
    omega
  rw [e, HT.sIx_none]
  simp
theorem cut_to_m2 (l : List PyData) (a b : PyData) : cutD (l ++ [a, b]) none (some (-2)) = l := by
  unfold cutD
  have e : HT.sIx (l ++ [a, b]).length (l ++ [a, b]).length (some (-2)) = l.length := by
    show (if (-2 : Int) < 0 then ((-2 : Int) + ((l ++ [a, b]).length : Int)).toNat else min (-2 : Int).toNat (l ++ [a, b]).length) = _
    rw [if_pos (by decide)]
    simp
    omega
  rw [e, HT.sIx_none]
  simp
theorem atI_m1 (l : List α) (a : α) : atI (l ++ [a]) (-1) = some a := by
  unfold atI ixN
  rw [if_neg (by decide), if_pos (by simp; omega)]
  have e : ((-1 : Int) + ((l ++ [a]).length : Int)).toNat = l.length := by simp; omega
  simp only [Option.bind_some]
  rw [e]
  simp
theorem atI_m2 (l : List α) (a b : α) : atI (l ++ [a, b]) (-2) = some a := by
  unfold atI ixN
  rw [if_neg (by decide), if_pos (by simp; omega)]
  have e : ((-2 : Int) + ((l ++ [a, b]).length : Int)).toNat = l.length := by simp; omega
  simp only [Option.bind_some]
  rw [e]
  simp
theorem atI_m1' (l : List α) (a b : α) : atI (l ++ [a, b]) (-1) = some b := by
  have := atI_m1 (l ++ [a]) b
  simpa using this
@[simp] theorem enumL_list (xs : List PyData) : enumL [.list xs] = some (xs.zipIdx.map fun p => .tuple [.int (p.2 : Nat), p.1]) := rfl
theorem zipL_list (xs ys : List PyData) (h : xs.length ≤ 16777216) : zipL [.list xs, .list ys] = some ((xs.zip ys).map fun p => .tuple [p.1, p.2]) := if_pos h
@[simp] theorem isD_none (d : PyData) : isD d .none = some (.bool (isNo d)) := by cases d <;> rfl
@[simp] theorem isnD_none (d : PyData) : isnD d .none = some (.bool (!isNo d)) := by cases d <;> rfl
@[simp] theorem isD_bool (a b : Bool) : isD (.bool a) (.bool b) = some (.bool (decide (a = b))) := rfl
@[simp] theorem isnD_bool (a b : Bool) : isnD (.bool a) (.bool b) = some (.bool (!decide (a = b))) := rfl
end
/-- a small number -/
theorem log_lt {a : Int} {k : Nat} (h : a.natAbs < 2 ^ k) (hk : 0 < k) : a.natAbs.log2 < k := by
  by_cases h0 : a.natAbs = 0
  · rw [h0]; simpa using hk
  · exact (Nat.log2_lt h0).mpr h
theorem okMul_of {a b : Int} {k l : Nat} (h : a.natAbs < 2 ^ k) (h2 : b.natAbs < 2 ^ l) (hs : k + l < 999000 := by decide) : okMul a b = true := by
  unfold okMul
  have h1 : a.natAbs.log2 < k + 1 := log_lt (Nat.lt_of_lt_of_le h (Nat.pow_le_pow_right (by decide) (by omega))) (by omega)
  have h3 : b.natAbs.log2 < l + 1 := log_lt (Nat.lt_of_lt_of_le h2 (Nat.pow_le_pow_right (by decide) (by omega))) (by omega)
  simp only [decide_eq_true_eq]
  omega
end Pf
/-! LawC: what the laws have in common: draws, mixes, fractions. -/
namespace LawC
open PySem PySem.Spec PyProof.Rows L2 Pf

def m__law_draws : List PyData → Res PyData := mDef 1 5 (
 sSeq (sSetN 1 (eNil))
      (sSeq (sFor (e1 rg1 (eCons (e1 min2D (eCons (eC (.int 63)) (eCons (e1 lenD (eCons (eVarB 0) eNil)) eNil))) (eNil))) (gSet 2)
      (sSeq (sSet 3 (e1 absD (eCons (e2 ixD (eVarB 0) (eVarB 2)) eNil)))
      (sIf (eTb (e2 geD (eVarB 3) (e2 powD (eC (.int 10)) (eC (.int 18)))))
      (sFor (e1 rg1 (eCons (eC (.int 60)) (eNil))) (gSet 4)
      (sIf (eTb (e2 gtD (eVarB 3) (eC (.int 0))))
      (sSeq (sApp 1 (e2 modD (e1 intD (eCons (eVarB 3) eNil)) (eC (.int 65536))))
      (sSet 3 (e2 divD (eVarB 3) (eC (.int 65536)))))
      (sPass)))
      (sSeq (sSet 5 (e2 modD (e1 intD (eCons (e2 addD (e2 mulD (eVarB 3) (eC (.int 48271))) (e2 mulD (e2 addD (eVarB 2) (eC (.int 1))) (eC (.int 69621)))) eNil)) (eC (.int 2147483647))))
      (sSeq (sSet 5 (e2 modD (e1 intD (eCons (e2 addD (e2 addD (e2 mulD (eVarB 5) (eC (.int 16807))) (e2 mulD (eC (.int 11)) (eVarB 2))) (eC (.int 5))) eNil)) (eC (.int 2147483629))))
      (sSeq (sApp 1 (e2 modD (e1 intD (eCons (eVarB 5) eNil)) (eC (.int 65536))))
      (sApp 1 (e2 modD (e1 intD (eCons (e2 divD (eVarB 5) (eC (.int 65536))) eNil)) (eC (.int 32768))))))))))
      (sFrz [1] (sRet (eVar 1)))))
def m__law_mix : List PyData → Res PyData := mDef 3 1 (
 sSeq (sSet 3 (eC (.int 0)))
      (sSeq (sIf (eTb (e2 gtD (e1 lenD (eCons (eVarB 0) eNil)) (eC (.int 0))))
      (sSet 3 (e2 ixD (eVarB 0) (e2 modD (e1 intD (eCons (eVarB 1) eNil)) (e1 lenD (eCons (eVarB 0) eNil)))))
      (sPass))
      (sSeq (sIf (eTb (e2 ltD (eVarB 1) (e1 lenD (eCons (eVarB 0) eNil))))
      (sRet (e2 modD (e1 intD (eCons (eVarB 3) eNil)) (eVarB 2)))
      (sPass))
      (sRet (e2 modD (e1 intD (eCons (e2 divD (e1 intD (eCons (e2 addD (e2 mulD (eVarB 3) (eC (.int 7919))) (e2 mulD (eVarB 1) (eC (.int 104729)))) eNil)) (eC (.int 3))) eNil)) (eVarB 2))))))
def m__law_common : List PyData → Res PyData := mDef 2 3 (
 sSeq (sParM [2, 3] (mVal (e1 absD (eCons (eVarB 0) eNil)) (mVal (e1 absD (eCons (eVarB 1) eNil)) (mNil))))
      (sSeq (sFor (e1 rg1 (eCons (eC (.int 400)) (eNil))) (gSet 4)
      (sIf (eTb (e2 gtD (eVarB 3) (eC (.int 0))))
      (sParM [2, 3] (mVal (eVar 3) (mVal (e2 modD (e1 intD (eCons (eVarB 2) eNil)) (eVarB 3)) (mNil))))
      (sPass)))
      (sRet (e1 max2D (eCons (eC (.int 1)) (eCons (eVarB 2) eNil))))))
def m__law_low : List PyData → Res PyData := mDef 2 1 (
 sSeq (sSet 2 (e2 mulD (eCall m__law_common (eCons (eVar 0) (eCons (eVar 1) (eNil)))) (e2 ixD (e1 listD (eCons (eC (.int 1)) (eCons (e1 negD (eC (.int 1))) (eNil)))) (e1 intD (eCons (e2 ltD (eVarB 1) (eC (.int 0))) eNil)))))
      (sRet (e1 tupD (eCons (e2 divD (eVarB 0) (eVarB 2)) (eCons (e2 divD (eVarB 1) (eVarB 2)) (eNil))))))
def m__law_add : List PyData → Res PyData := mDef 2 0 (
 sRet (eCall m__law_low (eCons (e2 addD (e2 mulD (e2 ixD (eVarB 0) (eC (.int 0))) (e2 ixD (eVarB 1) (eC (.int 1)))) (e2 mulD (e2 ixD (eVarB 1) (eC (.int 0))) (e2 ixD (eVarB 0) (eC (.int 1))))) (eCons (e2 mulD (e2 ixD (eVarB 0) (eC (.int 1))) (e2 ixD (eVarB 1) (eC (.int 1)))) (eNil)))))
def m__law_times : List PyData → Res PyData := mDef 2 0 (
 sRet (eCall m__law_low (eCons (e2 mulD (e2 ixD (eVarB 0) (eC (.int 0))) (e2 ixD (eVarB 1) (eC (.int 0)))) (eCons (e2 mulD (e2 ixD (eVarB 0) (eC (.int 1))) (e2 ixD (eVarB 1) (eC (.int 1)))) (eNil)))))
def m__law_sum : List PyData → Res PyData := mDef 1 2 (
 sSeq (sSet 1 (e1 tupD (eCons (eC (.int 0)) (eCons (eC (.int 1)) (eNil)))))
      (sSeq (sFor (e1 itL (eVar 0)) (gSet 2)
      (sSet 1 (eCall m__law_add (eCons (eVar 1) (eCons (eVar 2) (eNil))))))
      (sRet (eVar 1))))
def m_common : List PyData → Res PyData := mDef 2 2 (
 sSeq (sParM [2, 3] (mVal (e1 absD (eCons (eVarB 0) eNil)) (mVal (e1 absD (eCons (eVarB 1) eNil)) (mNil))))
      (sSeq (sWhile 100000 (eTb (e2 gtD (eVarB 3) (eC (.int 0))))
      (sParM [2, 3] (mVal (eVar 3) (mVal (e2 modD (eVarB 2) (eVarB 3)) (mNil)))))
      (sRet (eVar 2))))
def m_plain : List PyData → Res PyData := mDef 2 1 (
 sSeq (sSet 2 (eCall m_common (eCons (eVar 0) (eCons (eVar 1) (eNil)))))
      (sRet (e1 tupD (eCons (e2 divD (eVarB 0) (eVarB 2)) (eCons (e2 divD (eVarB 1) (eVarB 2)) (eNil))))))

abbrev intsD (ns : List Int) : PyData := .list (ns.map .int)
abbrev frD (p : Int × Int) : PyData := .tuple [.int p.1, .int p.2]

/-! ### mixes -/
theorem atI_mod {ds : List Int} {k : Int} (hp : 0 < ds.length) : ∃ x, atI ds (k % ds.length) = some x ∧ x ∈ ds := by
  have h1 : 0 ≤ k % (ds.length : Int) := Int.emod_nonneg _ (by omega)
  have h2 : k % (ds.length : Int) < ds.length := Int.emod_lt_of_pos _ (by omega)
  have h3 : (k % (ds.length : Int)).toNat < ds.length := by omega
  exact ⟨_, atI_at h1 (List.getElem?_eq_getElem h3), List.getElem_mem h3⟩
theorem natAbs_lt {a : Int} {n : Nat} (h0 : -(n : Int) < a) (h1 : a < n) : a.natAbs < n := by omega
theorem mix_ok (ds : List Int) (k many : Int) (hk : 0 ≤ k) (hk2 : k < 1000000) (hm : 0 < many) (hb : ∀ x ∈ ds, 0 ≤ x ∧ x < 65536) : ∃ r : Int, m__law_mix [intsD ds, .int k, .int many] = .ok (.int r) ∧ 0 ≤ r ∧ r < many := by
  have hmod : ∀ z : Int, 0 ≤ z % many ∧ z % many < many := fun z => ⟨Int.emod_nonneg _ (by omega), Int.emod_lt_of_pos _ hm⟩
  -- the cell
  obtain ⟨cell, hc0, hc1, hcell⟩ : ∃ cell : Int, 0 ≤ cell ∧ cell < 65536 ∧ m__law_mix [intsD ds, .int k, .int many] = outR ((sSeq (sIf (eTb (e2 ltD (eVarB 1) (e1 lenD (eCons (eVarB 0) eNil))))
      (sRet (e2 modD (e1 intD (eCons (eVarB 3) eNil)) (eVarB 2))) (sPass))
      (sRet (e2 modD (e1 intD (eCons (e2 divD (e1 intD (eCons (e2 addD (e2 mulD (eVarB 3) (eC (.int 7919))) (e2 mulD (eVarB 1) (eC (.int 104729)))) eNil)) (eC (.int 3))) eNil)) (eVarB 2)))) [.val (intsD ds), .val (.int k), .val (.int many), .val (.int cell)]) := by
    by_cases hp : 0 < ds.length
    · obtain ⟨x, hx, hxm⟩ := atI_mod (k := k) hp
      refine ⟨x, (hb x hxm).1, (hb x hxm).2, ?_⟩
      have hp' : (0 : Int) < (ds.length : Int) := by omega
      simp [m__law_mix, hp, hx, modD_int hp']
    · refine ⟨0, by omega, by omega, ?_⟩
      simp [m__law_mix, hp]
  have o1 : okMul cell 7919 = true := okMul_of (k := 17) (l := 13) (by omega) (by decide)
  have o2 : okMul k 104729 = true := okMul_of (k := 20) (l := 17) (by omega) (by decide)
  have e3 : ∀ z : Int, divD (.int z) (.int 3) = some (.int (z / 3)) := fun z => divD_int (by decide) (by decide)
  rw [hcell]
  by_cases hl : k < ds.length
  · refine ⟨cell % many, ?_, hmod _⟩
    simp [hl, modD_int hm]
  · refine ⟨((cell * 7919 + k * 104729) / 3) % many, ?_, hmod _⟩
    simp [hl, mulD_int o1, mulD_int o2, e3, modD_int hm]

def mixF (ds : List Int) (k many : Int) : Int := match m__law_mix [intsD ds, .int k, .int many] with
  | .ok (.int r) => r
  | _ => 0
theorem mixF_ok {ds : List Int} {k many : Int} (hk : 0 ≤ k) (hk2 : k < 1000000) (hm : 0 < many) (hb : ∀ x ∈ ds, 0 ≤ x ∧ x < 65536) : m__law_mix [intsD ds, .int k, .int many] = .ok (.int (mixF ds k many)) ∧ 0 ≤ mixF ds k many ∧ mixF ds k many < many := by
  obtain ⟨r, h1, h2, h3⟩ := mix_ok ds k many hk hk2 hm hb
  have : mixF ds k many = r := by unfold mixF; rw [h1]
  rw [this]
  exact ⟨h1, h2, h3⟩

/-! ### draws -/
def Dr (ds : List Int) : Prop := ds.length ≤ 3780 ∧ ∀ x ∈ ds, 0 ≤ x ∧ x < 65536
theorem draws_ok (ns : List Int) (hn : ns.length ≤ 63) : ∃ ds : List Int, m__law_draws [scr ns] = .ok (intsD ds) ∧ Dr ds := by
  have he3 : ∀ z : Int, divD (.int z) (.int 65536) = some (.int (z / 65536)) := fun z => divD_int (by decide) (by decide)
  have hmod : ∀ z : Int, 0 ≤ z % 65536 ∧ z % 65536 < 65536 := fun z => ⟨Int.emod_nonneg _ (by decide), Int.emod_lt_of_pos _ (by decide)⟩
  have hmod2 : ∀ z : Int, 0 ≤ z % 32768 ∧ z % 32768 < 65536 := fun z => ⟨Int.emod_nonneg _ (by decide), Int.lt_trans (Int.emod_lt_of_pos _ (by decide)) (by decide)⟩
  let I : Nat → Ro → Prop := fun i ρ => ∃ (ds : List Int) (a b c d : Sl), ρ = [.val (scr ns), .own (ds.map .int), a, b, c, d] ∧ ds.length ≤ 60 * i ∧ ∀ x ∈ ds, 0 ≤ x ∧ x < 65536
  have start : I 0 [.val (scr ns), .own [], .un, .un, .un, .un] := ⟨[], _, _, _, _, rfl, by simp, by simp⟩
  have hmin : min 63 (ns.length : Int) = ns.length := by omega
  have hpow : powD (.int 10) (.int 18) = some (.int 1000000000000000000) := by simp [powD]
  obtain ⟨ρ', h1, ds, a, b, c, d, rfl, hl, hb⟩ := forF_inv (g := gSet 2) (b := sSeq (sSet 3 (e1 absD (eCons (e2 ixD (eVarB 0) (eVarB 2)) eNil)))
      (sIf (eTb (e2 geD (eVarB 3) (e2 powD (eC (.int 10)) (eC (.int 18)))))
      (sFor (e1 rg1 (eCons (eC (.int 60)) (eNil))) (gSet 4)
      (sIf (eTb (e2 gtD (eVarB 3) (eC (.int 0))))
      (sSeq (sApp 1 (e2 modD (e1 intD (eCons (eVarB 3) eNil)) (eC (.int 65536))))
      (sSet 3 (e2 divD (eVarB 3) (eC (.int 65536)))))
      (sPass)))
      (sSeq (sSet 5 (e2 modD (e1 intD (eCons (e2 addD (e2 mulD (eVarB 3) (eC (.int 48271))) (e2 mulD (e2 addD (eVarB 2) (eC (.int 1))) (eC (.int 69621)))) eNil)) (eC (.int 2147483647))))
      (sSeq (sSet 5 (e2 modD (e1 intD (eCons (e2 addD (e2 addD (e2 mulD (eVarB 5) (eC (.int 16807))) (e2 mulD (eC (.int 11)) (eVarB 2))) (eC (.int 5))) eNil)) (eC (.int 2147483629))))
      (sSeq (sApp 1 (e2 modD (e1 intD (eCons (eVarB 5) eNil)) (eC (.int 65536))))
      (sApp 1 (e2 modD (e1 intD (eCons (e2 divD (eVarB 5) (eC (.int 65536))) eNil)) (eC (.int 32768)))))))))
    I (rngL 0 ns.length) 0 _ start (by
    rintro j dd ρ hj ⟨ds, a, b, c, d, rfl, hl, hb⟩
    rw [rngL_0, List.getElem?_map] at hj
    obtain ⟨j', hj', rfl⟩ := Option.map_eq_some_iff.mp hj
    have hjl : j' < ns.length := by
      have := List.mem_of_getElem? hj'
      simpa using this
    have hjj : j' = j := by
      have h2 := List.getElem?_eq_some_iff.mp hj'
      obtain ⟨h3, h4⟩ := h2
      simpa using h4.symm
    subst hjj
    obtain ⟨x, hx⟩ : ∃ x, ns[j']? = some x := ⟨_, List.getElem?_eq_getElem hjl⟩
    have hat : atI ns (j' : Int) = some x := by rw [Pf.atI_nat, hx]
    have hlen : ds.length < 16777200 := by omega
    refine ⟨[.val (scr ns), .own (ds.map .int), .val (.int (j' : Int)), b, c, d], ?_⟩
    by_cases hbig : (1000000000000000000 : Int) ≤ x.natAbs
    · -- digits
      let J : Nat → Ro → Prop := fun i ρ => ∃ (es : List Int) (r : Int) (c : Sl), ρ = [.val (scr ns), .own (es.map .int), .val (.int (j' : Int)), .val (.int r), c, d] ∧ es.length ≤ ds.length + i ∧ ∀ x ∈ es, 0 ≤ x ∧ x < 65536
      obtain ⟨ρ2, g1, es, r, c', rfl, g2, g3⟩ := forF_inv (g := gSet 4) (b := sIf (eTb (e2 gtD (eVarB 3) (eC (.int 0))))
        (sSeq (sApp 1 (e2 modD (e1 intD (eCons (eVarB 3) eNil)) (eC (.int 65536)))) (sSet 3 (e2 divD (eVarB 3) (eC (.int 65536))))) (sPass)) J (rngL 0 60) 0
        [.val (scr ns), .own (ds.map .int), .val (.int (j' : Int)), .val (.int x.natAbs), c, d] ⟨ds, _, _, rfl, by omega, hb⟩ (by
        rintro i dd ρ hi ⟨es, r, c, rfl, g2, g3⟩
        have hi60 : i < 60 := by
          have := (rngL_get hi).1
          exact this
        refine ⟨[.val (scr ns), .own (es.map .int), .val (.int (j' : Int)), .val (.int r), .val dd, d], ?_⟩
        by_cases hr : 0 < r
        · refine ⟨[.val (scr ns), .own ((es ++ [r % 65536]).map .int), .val (.int (j' : Int)), .val (.int (r / 65536)), .val dd, d], by simp, .inl ?_, es ++ [r % 65536], _, _, rfl, by simp; omega, fun y hy => ?_⟩
          · have hes : es.length < 16777216 := by omega
            simp [hr, he3, hes]
          · rcases List.mem_append.mp hy with hy | hy
            · exact g3 y hy
            · rw [List.mem_singleton.mp hy]; exact hmod _
        · refine ⟨[.val (scr ns), .own (es.map .int), .val (.int (j' : Int)), .val (.int r), .val dd, d], by simp, .inl ?_, es, _, _, rfl, by omega, g3⟩
          simp [hr])
      rw [rngL_length] at g2
      refine ⟨[.val (scr ns), .own (es.map .int), .val (.int (j' : Int)), .val (.int r), c', d], by simp, .inl ?_, es, _, _, _, _, rfl, by omega, g3⟩
      simp [hat, hpow, hbig]
      exact g1
    · -- mixed
      have hx18 : x.natAbs < 2 ^ 60 := by
        omega
      let s1 : Int := ((x.natAbs : Int) * 48271 + ((j' : Int) + 1) * 69621) % 2147483647
      have hs1 : 0 ≤ s1 ∧ s1 < 2147483647 := ⟨Int.emod_nonneg _ (by decide), Int.emod_lt_of_pos _ (by decide)⟩
      let s2 : Int := (s1 * 16807 + 11 * (j' : Int) + 5) % 2147483629
      have o1 : okMul (x.natAbs : Int) 48271 = true := okMul_of (k := 60) (l := 16) (by simpa using hx18) (by decide)
      have o2 : okMul ((j' : Int) + 1) 69621 = true := okMul_of (k := 10) (l := 17) (by omega) (by decide)
      have o3 : okMul s1 16807 = true := okMul_of (k := 31) (l := 15) (by omega) (by decide)
      have o4 : okMul 11 (j' : Int) = true := okMul_of (k := 4) (l := 10) (by decide) (by omega)
      have e1' : modD (.int ((x.natAbs : Int) * 48271 + ((j' : Int) + 1) * 69621)) (.int 2147483647) = some (.int s1) := modD_int (by decide)
      have e2' : modD (.int (s1 * 16807 + 11 * (j' : Int) + 5)) (.int 2147483629) = some (.int s2) := modD_int (by decide)
      have h1 : ds.length < 16777216 := by omega
      have h2 : ds.length + 1 < 16777216 := by omega
      refine ⟨[.val (scr ns), .own ((ds ++ [s2 % 65536] ++ [(s2 / 65536) % 32768]).map .int), .val (.int (j' : Int)), .val (.int x.natAbs), c, .val (.int s2)], by simp, .inl ?_, ds ++ [s2 % 65536] ++ [(s2 / 65536) % 32768], _, _, _, _, rfl, by simp; omega, fun y hy => ?_⟩
      · simp [hat, hpow, hbig, mulD_int o1, mulD_int o2, mulD_int o3, mulD_int o4, e1', e2', he3, h1, h2]
      · rcases List.mem_append.mp hy with hy | hy
        · rcases List.mem_append.mp hy with hy | hy
          · exact hb y hy
          · rw [List.mem_singleton.mp hy]; exact hmod _
        · rw [List.mem_singleton.mp hy]; exact hmod2 _)
  rw [rngL_length] at hl
  refine ⟨ds, ?_, by omega, hb⟩
  simp only [m__law_draws, mDef_eq, sSeq_eq, sSetN_eq, eNil_eq, List.length_singleton, if_true, List.map_cons, List.map_nil, Res.out_ok, sFor_eq]
  have hst : ([Sl.val (scr ns)] ++ List.replicate 5 Sl.un : Ro).set 1 (.own []) = [.val (scr ns), .own [], .un, .un, .un, .un] := rfl
  rw [hst]
  have hrg : e1 rg1 (eCons (e1 min2D (eCons (eC (.int 63)) (eCons (e1 lenD (eCons (eVarB 0) eNil)) eNil))) eNil) [.val (scr ns), .own [], .un, .un, .un, .un] = .ok (rngL 0 ns.length) := by
    simp [hmin]
    rw [rg1_int _ (by omega) (by omega)]
    simp
  rw [Out.seq_nx, sSeq_eq, sFor_eq, hrg, Res.out_ok, h1]
  simp

/-! ### the greatest common part -/
def estep (p : Nat × Nat) : Nat × Nat := if 0 < p.2 then (p.2, p.1 % p.2) else p
def iter : Nat → Nat × Nat → Nat × Nat
  | 0, p => p
  | n + 1, p => estep (iter n p)
theorem iter_succ (n : Nat) (p : Nat × Nat) : iter (n + 1) p = iter n (estep p) := by
  induction n with
  | zero => rfl
  | succ n ih => show estep (iter (n + 1) p) = estep (iter n (estep p)); rw [ih]
theorem estep_gcd (p : Nat × Nat) : Nat.gcd (estep p).1 (estep p).2 = Nat.gcd p.1 p.2 := by
  unfold estep
  split
  · show Nat.gcd p.2 (p.1 % p.2) = _
    rw [Nat.gcd_comm p.1 p.2, Nat.gcd_rec p.2 p.1, Nat.gcd_comm]
  · rfl
theorem iter_gcd (n : Nat) (p : Nat × Nat) : Nat.gcd (iter n p).1 (iter n p).2 = Nat.gcd p.1 p.2 := by
  induction n with
  | zero => rfl
  | succ n ih => show Nat.gcd (estep (iter n p)).1 (estep (iter n p)).2 = _; rw [estep_gcd, ih]
theorem iter_zero {p : Nat × Nat} (h : p.2 = 0) : ∀ n, iter n p = p
  | 0 => rfl
  | n + 1 => by show estep (iter n p) = p; rw [iter_zero h n]; unfold estep; rw [if_neg (by omega)]
theorem mod_half {b r : Nat} (h : r < b) (h0 : 0 < r) : 2 * (b % r) < b := by
  by_cases c : 2 * r ≤ b
  · have := Nat.mod_lt b h0; omega
  · have : b % r = b - r := by
      rw [Nat.mod_eq_sub_mod (Nat.le_of_lt h), Nat.mod_eq_of_lt (by omega)]
    omega
theorem two_steps (p : Nat × Nat) : 2 * (estep (estep p)).2 < p.2 ∨ (estep (estep p)).2 = 0 := by
  unfold estep
  by_cases h : 0 < p.2
  · rw [if_pos h]
    by_cases h2 : 0 < p.1 % p.2
    · left
      simp only [h2, if_true]
      exact mod_half (Nat.mod_lt _ h) h2
    · right
      simp only [h2, if_false]
      omega
  · rw [if_neg h, if_neg h]
    right; omega
theorem iter_done : ∀ (k : Nat) (p : Nat × Nat) (n : Nat), p.2 < 2 ^ k → 2 * k ≤ n → (iter n p).2 = 0
  | 0, p, n, h, _ => by rw [iter_zero (by simpa using h)]; simpa using h
  | k + 1, p, n, h, hn => by
    obtain ⟨m, rfl⟩ : ∃ m, n = m + 2 := ⟨n - 2, by omega⟩
    rw [iter_succ, iter_succ]
    refine iter_done k _ m ?_ (by omega)
    have hpos : 0 < 2 ^ k := Nat.pow_pos (by decide)
    rcases two_steps p with h2 | h2
    · rw [Nat.pow_succ] at h; omega
    · omega
theorem iter_eq {p : Nat × Nat} {k n : Nat} (h : p.2 < 2 ^ k) (hn : 2 * k ≤ n) : iter n p = (Nat.gcd p.1 p.2, 0) := by
  have h1 := iter_done k p n h hn
  have h2 := iter_gcd n p
  rw [h1, Nat.gcd_zero_right] at h2
  exact Prod.ext h2 h1
theorem lcommon_ok (a b : Int) (hb : b.natAbs < 2 ^ 200) : m__law_common [.int a, .int b] = .ok (.int (max 1 (Int.gcd a b))) := by
  let I : Nat → Ro → Prop := fun i ρ => ∃ (c : Sl), ρ = [.val (.int a), .val (.int b), .val (.int ((iter i (a.natAbs, b.natAbs)).1 : Nat)), .val (.int ((iter i (a.natAbs, b.natAbs)).2 : Nat)), c]
  obtain ⟨ρ', h1, c, rfl⟩ := forF_inv (g := gSet 4) (b := sIf (eTb (e2 gtD (eVarB 3) (eC (.int 0))))
      (sParM [2, 3] (mVal (eVar 3) (mVal (e2 modD (e1 intD (eCons (eVarB 2) eNil)) (eVarB 3)) (mNil)))) (sPass)) I (rngL 0 400) 0 [.val (.int a), .val (.int b), .val (.int a.natAbs), .val (.int b.natAbs), .un] ⟨_, rfl⟩ (by
    rintro j d ρ hj ⟨c, rfl⟩
    generalize hp : iter (0 + j) (a.natAbs, b.natAbs) = p
    refine ⟨[.val (.int a), .val (.int b), .val (.int (p.1 : Nat)), .val (.int (p.2 : Nat)), .val d], [.val (.int a), .val (.int b), .val (.int ((estep p).1 : Nat)), .val (.int ((estep p).2 : Nat)), .val d], rfl, .inl ?_, _, by rw [← hp]; rfl⟩
    by_cases h : 0 < p.2
    · have h' : (0 : Int) < (p.2 : Int) := by omega
      have e : estep p = (p.2, p.1 % p.2) := if_pos h
      simp [h, modD_int h', e]
    · have e : estep p = p := if_neg h
      simp [h, e])
  have hd : iter 400 (a.natAbs, b.natAbs) = (Nat.gcd a.natAbs b.natAbs, 0) := iter_eq (k := 200) hb (by decide)
  rw [rngL_length, Nat.zero_add, hd] at h1
  have hr : rg1 [.int 400] = some (rngL 0 400) := rg1_int 400 (by decide) (by decide)
  simp [m__law_common, hr, h1]
  rfl
theorem common_loop : ∀ (k : Nat) (x y n : Nat) (A B : Sl), y < 2 ^ k → 2 * k + 1 ≤ n →
    whF (eTb (e2 gtD (eVarB 3) (eC (.int 0)))) (sParM [2, 3] (mVal (eVar 3) (mVal (e2 modD (eVarB 2) (eVarB 3)) (mNil)))) n [A, B, .val (.int (x : Nat)), .val (.int (y : Nat))] = .nx [A, B, .val (.int (Nat.gcd x y : Nat)), .val (.int 0)] := by
  have one : ∀ (n x y : Nat) (A B : Sl), whF (eTb (e2 gtD (eVarB 3) (eC (.int 0)))) (sParM [2, 3] (mVal (eVar 3) (mVal (e2 modD (eVarB 2) (eVarB 3)) (mNil)))) (n + 1) [A, B, .val (.int (x : Nat)), .val (.int (y : Nat))] =
      if 0 < y then whF (eTb (e2 gtD (eVarB 3) (eC (.int 0)))) (sParM [2, 3] (mVal (eVar 3) (mVal (e2 modD (eVarB 2) (eVarB 3)) (mNil)))) n [A, B, .val (.int (y : Nat)), .val (.int (x % y : Nat))] else .nx [A, B, .val (.int (x : Nat)), .val (.int (y : Nat))] := by
    intro n x y A B
    rw [whF]
    by_cases h : 0 < y
    · have h' : (0 : Int) < (y : Int) := by omega
      simp [h, modD_int h']
    · simp [h]
  intro k
  induction k with
  | zero =>
    intro x y n A B h hn
    obtain ⟨m, rfl⟩ : ∃ m, n = m + 1 := ⟨n - 1, by omega⟩
    have : y = 0 := by simpa using h
    subst this
    rw [one, if_neg (by decide), Nat.gcd_zero_right]
    rfl
  | succ k ih =>
    intro x y n A B h hn
    obtain ⟨m, rfl⟩ : ∃ m, n = m + 1 + 1 := ⟨n - 2, by omega⟩
    have hpos : 0 < 2 ^ k := Nat.pow_pos (by decide)
    rw [Nat.pow_succ] at h
    rw [one]
    by_cases h0 : 0 < y
    · rw [if_pos h0, one]
      by_cases h1 : 0 < x % y
      · rw [if_pos h1, ih _ _ _ _ _ (by have := mod_half (Nat.mod_lt x h0) h1; omega) (by omega)]
        have g : Nat.gcd (x % y) (y % (x % y)) = Nat.gcd x y := by
          rw [Nat.gcd_comm (x % y), ← Nat.gcd_rec, ← Nat.gcd_rec, Nat.gcd_comm]
        rw [g]
      · rw [if_neg h1]
        have e : x % y = 0 := by omega
        have g : Nat.gcd x y = y := by rw [Nat.gcd_comm, Nat.gcd_rec, e, Nat.gcd_zero_left]
        rw [e, g]
        rfl
    · have : y = 0 := by omega
      subst this
      rw [if_neg (by decide), Nat.gcd_zero_right]
      rfl
theorem common_ok (a b : Int) (hb : b.natAbs < 2 ^ 200) : m_common [.int a, .int b] = .ok (.int (Int.gcd a b)) := by
  have h := common_loop 200 a.natAbs b.natAbs 100000 (.val (.int a)) (.val (.int b)) hb (by decide)
  have e : m_common [.int a, .int b] = outR ((whF (eTb (e2 gtD (eVarB 3) (eC (.int 0)))) (sParM [2, 3] (mVal (eVar 3) (mVal (e2 modD (eVarB 2) (eVarB 3)) (mNil)))) 100000 [.val (.int a), .val (.int b), .val (.int (a.natAbs : Nat)), .val (.int (b.natAbs : Nat))]).seq (sRet (eVar 2))) := by
    simp only [m_common, mDef_eq, sSeq_eq, sWhile_eq]
    simp
  rw [e, h]
  simp
  rfl

/-! ### fractions in lowest terms -/
def low (n d : Int) : Int × Int := (n / (Int.gcd n d : Int), d / (Int.gcd n d : Int))
theorem gcd_pos {n d : Int} (h : 0 < d) : 0 < (Int.gcd n d : Int) := by
  have : Int.gcd n d ≠ 0 := fun e => by
    have := (Int.gcd_eq_zero_iff.mp e).2
    omega
  omega
theorem gcd_le {n d : Int} (h : 0 < d) : (Int.gcd n d : Int) ≤ d := Int.le_of_dvd h (Int.gcd_dvd_right ..)
theorem natAbs_small {a : Int} {k : Nat} (h0 : 0 ≤ a) (h : a < 2 ^ k) : a.natAbs < 2 ^ k := by
  have e : ((2 ^ k : Nat) : Int) = (2 : Int) ^ k := by simp
  omega
theorem llow_ok (n d : Int) (hd : 0 < d) (hb : d < 2 ^ 200) : m__law_low [.int n, .int d] = .ok (frD (low n d)) := by
  have hdb := natAbs_small (Int.le_of_lt hd) hb
  have hg := gcd_pos (n := n) hd
  have hgl := gcd_le (n := n) hd
  have hgb : (Int.gcd n d : Int) < 2 ^ 200 := Int.lt_of_le_of_lt hgl hb
  have hgn := natAbs_small (Int.le_of_lt hg) hgb
  have hc := lcommon_ok n d hdb
  have hm : max 1 (Int.gcd n d : Int) = Int.gcd n d := by omega
  rw [hm] at hc
  have hnd : ¬ d < 0 := by omega
  have o : okMul (Int.gcd n d : Int) 1 = true := okMul_of (k := 200) (l := 1) hgn (by decide)
  have e3 : ∀ z : Int, divD (.int z) (.int (Int.gcd n d)) = some (.int (z / Int.gcd n d)) := fun z => divD_int hg (Nat.lt_of_lt_of_le (log_lt hgn (by decide)) (by decide))
  simp [m__law_low, hc, hnd, mulD_int o, e3, low]
theorem plain_ok (n d : Int) (hd : 0 < d) (hb : d < 2 ^ 200) : m_plain [.int n, .int d] = .ok (frD (low n d)) := by
  have hdb := natAbs_small (Int.le_of_lt hd) hb
  have hg := gcd_pos (n := n) hd
  have hgl := gcd_le (n := n) hd
  have hgb : (Int.gcd n d : Int) < 2 ^ 200 := Int.lt_of_le_of_lt hgl hb
  have hgn := natAbs_small (Int.le_of_lt hg) hgb
  have hc := common_ok n d hdb
  have e3 : ∀ z : Int, divD (.int z) (.int (Int.gcd n d)) = some (.int (z / Int.gcd n d)) := fun z => divD_int hg (Nat.lt_of_lt_of_le (log_lt hgn (by decide)) (by decide))
  simp [m_plain, hc, e3, low]
theorem ladd_ok (p q : Int × Int) (h1 : okMul p.1 q.2 = true) (h2 : okMul q.1 p.2 = true) (h3 : okMul p.2 q.2 = true) (hd : 0 < p.2 * q.2) (hb : p.2 * q.2 < 2 ^ 200) :
    m__law_add [frD p, frD q] = .ok (frD (low (p.1 * q.2 + q.1 * p.2) (p.2 * q.2))) := by
  have := llow_ok (p.1 * q.2 + q.1 * p.2) (p.2 * q.2) hd hb
  simp [m__law_add, mulD_int h1, mulD_int h2, mulD_int h3, this]
theorem ltimes_ok (p q : Int × Int) (h1 : okMul p.1 q.1 = true) (h3 : okMul p.2 q.2 = true) (hd : 0 < p.2 * q.2) (hb : p.2 * q.2 < 2 ^ 200) :
    m__law_times [frD p, frD q] = .ok (frD (low (p.1 * q.1) (p.2 * q.2))) := by
  have := llow_ok (p.1 * q.1) (p.2 * q.2) hd hb
  simp [m__law_times, mulD_int h1, mulD_int h3, this]
/-! ### what fractions are worth -/
theorem low_den {n d : Int} (h : 0 < d) : 0 < (low n d).2 ∧ (low n d).2 ≤ d := by
  have hg := gcd_pos (n := n) h
  have hd : (Int.gcd n d : Int) ∣ d := Int.gcd_dvd_right ..
  unfold low
  refine ⟨Int.ediv_pos_of_pos_of_dvd h (Int.le_of_lt hg) hd, ?_⟩
  exact Int.ediv_le_self _ (Int.le_of_lt h)
theorem low_val {n d : Int} (h : 0 < d) : (low n d).1 * d = n * (low n d).2 := by
  have hg := gcd_pos (n := n) h
  have h1 : (Int.gcd n d : Int) ∣ n := Int.gcd_dvd_left ..
  have h2 : (Int.gcd n d : Int) ∣ d := Int.gcd_dvd_right ..
  unfold low
  obtain ⟨a, ha⟩ := h1
  obtain ⟨b, hb⟩ := h2
  generalize (Int.gcd n d : Int) = g at *
  subst ha hb
  have e1 : g * a / g = a := Int.mul_ediv_cancel_left _ (by omega)
  have e2 : g * b / g = b := Int.mul_ediv_cancel_left _ (by omega)
  simp only [e1, e2]
  grind
theorem low_num {n d : Int} (h : 0 < d) : (low n d).1.natAbs ≤ n.natAbs := by
  have h1 : (Int.gcd n d : Int) ∣ n := Int.gcd_dvd_left ..
  have hg := gcd_pos (n := n) h
  unfold low
  obtain ⟨a, ha⟩ := h1
  generalize (Int.gcd n d : Int) = g at *
  subst ha
  have e1 : g * a / g = a := Int.mul_ediv_cancel_left _ (by omega)
  simp only [e1, Int.natAbs_mul]
  exact Nat.le_mul_of_pos_left _ (by omega)
theorem low_scale (n d k : Int) (hk : 0 < k) (hd : 0 < d) : low (n * k) (d * k) = low n d := by
  unfold low
  have e : (Int.gcd (n * k) (d * k) : Int) = Int.gcd n d * k := by
    rw [Int.gcd_mul_right]
    have : (k.natAbs : Int) = k := by omega
    rw [Int.natCast_mul, this]
  rw [e, Int.mul_ediv_mul_of_pos_left _ _ hk, Int.mul_ediv_mul_of_pos_left _ _ hk]
theorem low_eq {n d n' d' : Int} (h : 0 < d) (h' : 0 < d') (e : n * d' = n' * d) : low n d = low n' d' := by
  rw [← low_scale n d d' h' h, ← low_scale n' d' d h h', e, Int.mul_comm d' d]
theorem low_iff {n d n' d' : Int} (h : 0 < d) (h' : 0 < d') : low n d = low n' d' ↔ n * d' = n' * d := by
  refine ⟨fun e => ?_, low_eq h h'⟩
  have v1 := low_val (n := n) h
  have v2 := low_val (n := n') h'
  have p1 := (low_den (n := n') h').1
  rw [e] at v1
  generalize (low n' d').1 = a at *
  generalize (low n' d').2 = b at *
  have : (n * d') * b = (n' * d) * b := by grind
  exact Int.eq_of_mul_eq_mul_right (by omega) this
theorem low_lt {n d n' d' : Int} (h : 0 < d) (h' : 0 < d') : (low n d).1 * (low n' d').2 < (low n' d').1 * (low n d).2 ↔ n * d' < n' * d := by
  have v1 := low_val (n := n) h
  have v2 := low_val (n := n') h'
  have p1 := (low_den (n := n) h).1
  have p2 := (low_den (n := n') h').1
  generalize (low n d).1 = a at *
  generalize (low n d).2 = b at *
  generalize (low n' d').1 = a' at *
  generalize (low n' d').2 = b' at *
  have e1 : (a * b') * (d * d') = (n * d') * (b * b') := by grind
  have e2 : (a' * b) * (d * d') = (n' * d) * (b * b') := by grind
  have q1 : 0 < d * d' := Int.mul_pos h h'
  have q2 : 0 < b * b' := Int.mul_pos p1 p2
  constructor
  · intro hl
    have := Int.mul_lt_mul_of_pos_right hl q1
    rw [e1, e2] at this
    exact Int.lt_of_mul_lt_mul_right this (Int.le_of_lt q2)
  · intro hl
    have := Int.mul_lt_mul_of_pos_right hl q2
    rw [← e1, ← e2] at this
    exact Int.lt_of_mul_lt_mul_right this (Int.le_of_lt q1)
theorem low_one (n : Int) : low n 1 = (n, 1) := by
  unfold low
  simp
theorem low_pos {n d : Int} (h : 0 < d) : 0 < (low n d).1 ↔ 0 < n := by
  have v1 := low_val (n := n) h
  have p1 := (low_den (n := n) h).1
  generalize (low n d).1 = a at *
  generalize (low n d).2 = b at *
  constructor
  · intro ha
    have : 0 < a * d := Int.mul_pos ha h
    rw [v1] at this
    exact Int.pos_of_mul_pos_left this p1 
  · intro hn
    have : 0 < n * b := Int.mul_pos hn p1
    rw [← v1] at this
    exact Int.pos_of_mul_pos_left this h
end LawC
namespace K06
open PySem PySem.Spec PyProof.Rows L2 Pf
abbrev PP : Program := (PySem.Challenge.rw_truebidsbest_k06_main_beliefs_smoothed_b).prog
def top (i : Nat) : Stmt := PySem.Challenge.pw_truebidsbest_k06_main_beliefs_smoothed_b.main.body.getD i (.Pass ⟨0, 0, 0, 0⟩)
def initOf : Stmt → Stmt
  | .ClassDef _ _ _ b _ _ _ _ _ _ _ => b.getD 0 (.Pass ⟨0, 0, 0, 0⟩)
  | s => s
abbrev initSt : Stmt := initOf (top 1)
abbrev st_common : Stmt := top 4
abbrev st_plain : Stmt := top 5
abbrev st_is_belief : Stmt := top 10
abbrev st_check_belief : Stmt := top 11
abbrev st_weight_of : Stmt := top 12
abbrev st_gains_in : Stmt := top 13
abbrev st_gains_of : Stmt := top 14
abbrev st_is_more : Stmt := top 15
abbrev st_smooth_in : Stmt := top 16
abbrev st_mean_of : Stmt := top 17
abbrev st_smooth_of : Stmt := top 18
abbrev st_posted : Stmt := top 19
abbrev st__law_draws : Stmt := top 21
abbrev st__law_mix : Stmt := top 22
abbrev st__law_common : Stmt := top 23
abbrev st__law_low : Stmt := top 24
abbrev st__law_add : Stmt := top 25
abbrev st__law_times : Stmt := top 26
abbrev st__law_sum : Stmt := top 27
abbrev st__law_belief : Stmt := top 28
abbrev st__law_gains : Stmt := top 29
abbrev st__law_mean : Stmt := top 30
abbrev st__law_is_less : Stmt := top 31
abbrev st__law_greatest : Stmt := top 32
abbrev st__law_least : Stmt := top 33
abbrev st__law_smooth : Stmt := top 34
abbrev st__law_word : Stmt := top 35
abbrev st_law : Stmt := top 36
def dd_common : He.DefD := ⟨("common", none), "common", "common", defArgs st_common, defBody st_common, defScope st_common, [], []⟩
def dd_plain : He.DefD := ⟨("plain", none), "plain", "plain", defArgs st_plain, defBody st_plain, defScope st_plain, [], []⟩
def dd_is_belief : He.DefD := ⟨("is_belief", none), "is_belief", "is_belief", defArgs st_is_belief, defBody st_is_belief, defScope st_is_belief, [], []⟩
def dd_check_belief : He.DefD := ⟨("check_belief", none), "check_belief", "check_belief", defArgs st_check_belief, defBody st_check_belief, defScope st_check_belief, [], []⟩
def dd_weight_of : He.DefD := ⟨("weight_of", none), "weight_of", "weight_of", defArgs st_weight_of, defBody st_weight_of, defScope st_weight_of, [], []⟩
def dd_gains_in : He.DefD := ⟨("gains_in", none), "gains_in", "gains_in", defArgs st_gains_in, defBody st_gains_in, defScope st_gains_in, [], []⟩
def dd_gains_of : He.DefD := ⟨("gains_of", none), "gains_of", "gains_of", defArgs st_gains_of, defBody st_gains_of, defScope st_gains_of, [], []⟩
def dd_is_more : He.DefD := ⟨("is_more", none), "is_more", "is_more", defArgs st_is_more, defBody st_is_more, defScope st_is_more, [], []⟩
def dd_smooth_in : He.DefD := ⟨("smooth_in", none), "smooth_in", "smooth_in", defArgs st_smooth_in, defBody st_smooth_in, defScope st_smooth_in, [], []⟩
def dd_mean_of : He.DefD := ⟨("mean_of", none), "mean_of", "mean_of", defArgs st_mean_of, defBody st_mean_of, defScope st_mean_of, [], []⟩
def dd_smooth_of : He.DefD := ⟨("smooth_of", none), "smooth_of", "smooth_of", defArgs st_smooth_of, defBody st_smooth_of, defScope st_smooth_of, [], []⟩
def dd_posted : He.DefD := ⟨("posted", none), "posted", "posted", defArgs st_posted, defBody st_posted, defScope st_posted, [], []⟩
def dd__law_draws : He.DefD := ⟨("_law_draws", none), "_law_draws", "_law_draws", defArgs st__law_draws, defBody st__law_draws, defScope st__law_draws, [], []⟩
def dd__law_mix : He.DefD := ⟨("_law_mix", none), "_law_mix", "_law_mix", defArgs st__law_mix, defBody st__law_mix, defScope st__law_mix, [], []⟩
def dd__law_common : He.DefD := ⟨("_law_common", none), "_law_common", "_law_common", defArgs st__law_common, defBody st__law_common, defScope st__law_common, [], []⟩
def dd__law_low : He.DefD := ⟨("_law_low", none), "_law_low", "_law_low", defArgs st__law_low, defBody st__law_low, defScope st__law_low, [], []⟩
def dd__law_add : He.DefD := ⟨("_law_add", none), "_law_add", "_law_add", defArgs st__law_add, defBody st__law_add, defScope st__law_add, [], []⟩
def dd__law_times : He.DefD := ⟨("_law_times", none), "_law_times", "_law_times", defArgs st__law_times, defBody st__law_times, defScope st__law_times, [], []⟩
def dd__law_sum : He.DefD := ⟨("_law_sum", none), "_law_sum", "_law_sum", defArgs st__law_sum, defBody st__law_sum, defScope st__law_sum, [], []⟩
def dd__law_belief : He.DefD := ⟨("_law_belief", none), "_law_belief", "_law_belief", defArgs st__law_belief, defBody st__law_belief, defScope st__law_belief, [], []⟩
def dd__law_gains : He.DefD := ⟨("_law_gains", none), "_law_gains", "_law_gains", defArgs st__law_gains, defBody st__law_gains, defScope st__law_gains, [], []⟩
def dd__law_mean : He.DefD := ⟨("_law_mean", none), "_law_mean", "_law_mean", defArgs st__law_mean, defBody st__law_mean, defScope st__law_mean, [], []⟩
def dd__law_is_less : He.DefD := ⟨("_law_is_less", none), "_law_is_less", "_law_is_less", defArgs st__law_is_less, defBody st__law_is_less, defScope st__law_is_less, [], []⟩
def dd__law_greatest : He.DefD := ⟨("_law_greatest", none), "_law_greatest", "_law_greatest", defArgs st__law_greatest, defBody st__law_greatest, defScope st__law_greatest, [], []⟩
def dd__law_least : He.DefD := ⟨("_law_least", none), "_law_least", "_law_least", defArgs st__law_least, defBody st__law_least, defScope st__law_least, [], []⟩
def dd__law_smooth : He.DefD := ⟨("_law_smooth", none), "_law_smooth", "_law_smooth", defArgs st__law_smooth, defBody st__law_smooth, defScope st__law_smooth, [], []⟩
def dd__law_word : He.DefD := ⟨("_law_word", none), "_law_word", "_law_word", defArgs st__law_word, defBody st__law_word, defScope st__law_word, [], []⟩
def dd_law : He.DefD := ⟨("law", none), "law", "law", defArgs st_law, defBody st_law, defScope st_law, [], []⟩
def fnL0 : List He.DefD := [dd_common, dd_plain, dd_is_belief, dd_check_belief, dd_weight_of, dd_gains_in, dd_gains_of, dd_is_more, dd_smooth_in, dd_mean_of, dd_smooth_of, dd_posted, dd__law_draws, dd__law_mix, dd__law_common, dd__law_low, dd__law_add, dd__law_times, dd__law_sum, dd__law_belief, dd__law_gains, dd__law_mean, dd__law_is_less, dd__law_greatest, dd__law_least, dd__law_smooth, dd__law_word, dd_law]
abbrev fnL : List He.DefD := fnL0
def faL0 : List He.Fa := [.glo "common", .glo "plain", .glo "is_belief", .glo "check_belief", .glo "weight_of", .glo "gains_in", .glo "gains_of", .glo "is_more", .glo "smooth_in", .glo "mean_of", .glo "smooth_of", .glo "posted", .glo "_law_draws", .glo "_law_mix", .glo "_law_common", .glo "_law_low", .glo "_law_add", .glo "_law_times", .glo "_law_sum", .glo "_law_belief", .glo "_law_gains", .glo "_law_mean", .glo "_law_is_less", .glo "_law_greatest", .glo "_law_least", .glo "_law_smooth", .glo "_law_word", .glo "law", .glo "AuctionError", .glo "BadWorths"]
def faL1 : List He.Fa := [.free "abs", .free "all", .free "len", .free "zip", .free "sum", .free "enumerate", .free "range", .free "max", .free "min", .free "int", .free "sorted", .free "set", .free "list", .free "super", .int "MOST_WORTHS" 6, .int "MOST_WORTH" 1000, .int "MOST_WEIGHT" 100]
abbrev faL : List He.Fa := faL0 ++ faL1
def names0 : List Str := ["AuctionError", "BadWorths", "common", "plain", "MOST_WORTHS", "MOST_WORTH", "MOST_WEIGHT", "is_belief", "check_belief", "weight_of", "gains_in", "gains_of", "is_more", "smooth_in", "mean_of", "smooth_of", "posted", "_law_draws", "_law_mix", "_law_common", "_law_low", "_law_add", "_law_times", "_law_sum", "_law_belief", "_law_gains", "_law_mean", "_law_is_less", "_law_greatest", "_law_least"]
def names1 : List Str := ["_law_smooth", "_law_word"]
abbrev names : List Str := names0 ++ names1
def wt : Wt where
  fa := faL
  fn := fnL
  D := "AuctionError"
  qual := "AuctionError.__init__"
  st := initSt
  file := PP.main.file
  cs := ["BadWorths"]
  ex := [("BadWorths", "BadWorths", true)]
structure M (K : PySem.W.Frag) (mg : Str → Option Value) : Prop where
  h : ∃ hp : Heap, K.In hp ∧ hp.Ns mainGlobals mg
  c : SaysP wt K
section
variable {K : PySem.W.Frag} {mg : Str → Option Value}
theorem M.gl_common (m : M K mg) : mg "common" = some (.ref (He.ga K "common")) := by
  obtain ⟨_, X, G⟩ := m.h
  exact He.glo_ok X G (m.c.d.fact 0 (f := .glo "common") rfl)
theorem M.gl_plain (m : M K mg) : mg "plain" = some (.ref (He.ga K "plain")) := by
  obtain ⟨_, X, G⟩ := m.h
  exact He.glo_ok X G (m.c.d.fact 1 (f := .glo "plain") rfl)
theorem M.gl_is_belief (m : M K mg) : mg "is_belief" = some (.ref (He.ga K "is_belief")) := by
  obtain ⟨_, X, G⟩ := m.h
  exact He.glo_ok X G (m.c.d.fact 2 (f := .glo "is_belief") rfl)
theorem M.gl_check_belief (m : M K mg) : mg "check_belief" = some (.ref (He.ga K "check_belief")) := by
  obtain ⟨_, X, G⟩ := m.h
  exact He.glo_ok X G (m.c.d.fact 3 (f := .glo "check_belief") rfl)
theorem M.gl_weight_of (m : M K mg) : mg "weight_of" = some (.ref (He.ga K "weight_of")) := by
  obtain ⟨_, X, G⟩ := m.h
  exact He.glo_ok X G (m.c.d.fact 4 (f := .glo "weight_of") rfl)
theorem M.gl_gains_in (m : M K mg) : mg "gains_in" = some (.ref (He.ga K "gains_in")) := by
  obtain ⟨_, X, G⟩ := m.h
  exact He.glo_ok X G (m.c.d.fact 5 (f := .glo "gains_in") rfl)
theorem M.gl_gains_of (m : M K mg) : mg "gains_of" = some (.ref (He.ga K "gains_of")) := by
  obtain ⟨_, X, G⟩ := m.h
  exact He.glo_ok X G (m.c.d.fact 6 (f := .glo "gains_of") rfl)
theorem M.gl_is_more (m : M K mg) : mg "is_more" = some (.ref (He.ga K "is_more")) := by
  obtain ⟨_, X, G⟩ := m.h
  exact He.glo_ok X G (m.c.d.fact 7 (f := .glo "is_more") rfl)
theorem M.gl_smooth_in (m : M K mg) : mg "smooth_in" = some (.ref (He.ga K "smooth_in")) := by
  obtain ⟨_, X, G⟩ := m.h
  exact He.glo_ok X G (m.c.d.fact 8 (f := .glo "smooth_in") rfl)
theorem M.gl_mean_of (m : M K mg) : mg "mean_of" = some (.ref (He.ga K "mean_of")) := by
  obtain ⟨_, X, G⟩ := m.h
  exact He.glo_ok X G (m.c.d.fact 9 (f := .glo "mean_of") rfl)
theorem M.gl_smooth_of (m : M K mg) : mg "smooth_of" = some (.ref (He.ga K "smooth_of")) := by
  obtain ⟨_, X, G⟩ := m.h
  exact He.glo_ok X G (m.c.d.fact 10 (f := .glo "smooth_of") rfl)
theorem M.gl_posted (m : M K mg) : mg "posted" = some (.ref (He.ga K "posted")) := by
  obtain ⟨_, X, G⟩ := m.h
  exact He.glo_ok X G (m.c.d.fact 11 (f := .glo "posted") rfl)
theorem M.gl__law_draws (m : M K mg) : mg "_law_draws" = some (.ref (He.ga K "_law_draws")) := by
  obtain ⟨_, X, G⟩ := m.h
  exact He.glo_ok X G (m.c.d.fact 12 (f := .glo "_law_draws") rfl)
theorem M.gl__law_mix (m : M K mg) : mg "_law_mix" = some (.ref (He.ga K "_law_mix")) := by
  obtain ⟨_, X, G⟩ := m.h
  exact He.glo_ok X G (m.c.d.fact 13 (f := .glo "_law_mix") rfl)
theorem M.gl__law_common (m : M K mg) : mg "_law_common" = some (.ref (He.ga K "_law_common")) := by
  obtain ⟨_, X, G⟩ := m.h
  exact He.glo_ok X G (m.c.d.fact 14 (f := .glo "_law_common") rfl)
theorem M.gl__law_low (m : M K mg) : mg "_law_low" = some (.ref (He.ga K "_law_low")) := by
  obtain ⟨_, X, G⟩ := m.h
  exact He.glo_ok X G (m.c.d.fact 15 (f := .glo "_law_low") rfl)
theorem M.gl__law_add (m : M K mg) : mg "_law_add" = some (.ref (He.ga K "_law_add")) := by
  obtain ⟨_, X, G⟩ := m.h
  exact He.glo_ok X G (m.c.d.fact 16 (f := .glo "_law_add") rfl)
theorem M.gl__law_times (m : M K mg) : mg "_law_times" = some (.ref (He.ga K "_law_times")) := by
  obtain ⟨_, X, G⟩ := m.h
  exact He.glo_ok X G (m.c.d.fact 17 (f := .glo "_law_times") rfl)
theorem M.gl__law_sum (m : M K mg) : mg "_law_sum" = some (.ref (He.ga K "_law_sum")) := by
  obtain ⟨_, X, G⟩ := m.h
  exact He.glo_ok X G (m.c.d.fact 18 (f := .glo "_law_sum") rfl)
theorem M.gl__law_belief (m : M K mg) : mg "_law_belief" = some (.ref (He.ga K "_law_belief")) := by
  obtain ⟨_, X, G⟩ := m.h
  exact He.glo_ok X G (m.c.d.fact 19 (f := .glo "_law_belief") rfl)
theorem M.gl__law_gains (m : M K mg) : mg "_law_gains" = some (.ref (He.ga K "_law_gains")) := by
  obtain ⟨_, X, G⟩ := m.h
  exact He.glo_ok X G (m.c.d.fact 20 (f := .glo "_law_gains") rfl)
theorem M.gl__law_mean (m : M K mg) : mg "_law_mean" = some (.ref (He.ga K "_law_mean")) := by
  obtain ⟨_, X, G⟩ := m.h
  exact He.glo_ok X G (m.c.d.fact 21 (f := .glo "_law_mean") rfl)
theorem M.gl__law_is_less (m : M K mg) : mg "_law_is_less" = some (.ref (He.ga K "_law_is_less")) := by
  obtain ⟨_, X, G⟩ := m.h
  exact He.glo_ok X G (m.c.d.fact 22 (f := .glo "_law_is_less") rfl)
theorem M.gl__law_greatest (m : M K mg) : mg "_law_greatest" = some (.ref (He.ga K "_law_greatest")) := by
  obtain ⟨_, X, G⟩ := m.h
  exact He.glo_ok X G (m.c.d.fact 23 (f := .glo "_law_greatest") rfl)
theorem M.gl__law_least (m : M K mg) : mg "_law_least" = some (.ref (He.ga K "_law_least")) := by
  obtain ⟨_, X, G⟩ := m.h
  exact He.glo_ok X G (m.c.d.fact 24 (f := .glo "_law_least") rfl)
theorem M.gl__law_smooth (m : M K mg) : mg "_law_smooth" = some (.ref (He.ga K "_law_smooth")) := by
  obtain ⟨_, X, G⟩ := m.h
  exact He.glo_ok X G (m.c.d.fact 25 (f := .glo "_law_smooth") rfl)
theorem M.gl__law_word (m : M K mg) : mg "_law_word" = some (.ref (He.ga K "_law_word")) := by
  obtain ⟨_, X, G⟩ := m.h
  exact He.glo_ok X G (m.c.d.fact 26 (f := .glo "_law_word") rfl)
theorem M.gl_law (m : M K mg) : mg "law" = some (.ref (He.ga K "law")) := by
  obtain ⟨_, X, G⟩ := m.h
  exact He.glo_ok X G (m.c.d.fact 27 (f := .glo "law") rfl)
theorem M.gl_AuctionError (m : M K mg) : mg "AuctionError" = some (.ref (He.ga K "AuctionError")) := by
  obtain ⟨_, X, G⟩ := m.h
  exact He.glo_ok X G (m.c.d.fact 28 (f := .glo "AuctionError") rfl)
theorem M.gl_BadWorths (m : M K mg) : mg "BadWorths" = some (.ref (He.ga K "BadWorths")) := by
  obtain ⟨_, X, G⟩ := m.h
  exact He.glo_ok X G (m.c.d.fact 29 (f := .glo "BadWorths") rfl)
theorem M.fr_abs (m : M K mg) : mg "abs" = none := by
  obtain ⟨_, X, G⟩ := m.h
  exact He.free_ok X G (m.c.d.fact 30 (f := .free "abs") rfl)
theorem M.fr_all (m : M K mg) : mg "all" = none := by
  obtain ⟨_, X, G⟩ := m.h
  exact He.free_ok X G (m.c.d.fact 31 (f := .free "all") rfl)
theorem M.fr_len (m : M K mg) : mg "len" = none := by
  obtain ⟨_, X, G⟩ := m.h
  exact He.free_ok X G (m.c.d.fact 32 (f := .free "len") rfl)
theorem M.fr_zip (m : M K mg) : mg "zip" = none := by
  obtain ⟨_, X, G⟩ := m.h
  exact He.free_ok X G (m.c.d.fact 33 (f := .free "zip") rfl)
theorem M.fr_sum (m : M K mg) : mg "sum" = none := by
  obtain ⟨_, X, G⟩ := m.h
  exact He.free_ok X G (m.c.d.fact 34 (f := .free "sum") rfl)
theorem M.fr_enumerate (m : M K mg) : mg "enumerate" = none := by
  obtain ⟨_, X, G⟩ := m.h
  exact He.free_ok X G (m.c.d.fact 35 (f := .free "enumerate") rfl)
theorem M.fr_range (m : M K mg) : mg "range" = none := by
  obtain ⟨_, X, G⟩ := m.h
  exact He.free_ok X G (m.c.d.fact 36 (f := .free "range") rfl)
theorem M.fr_max (m : M K mg) : mg "max" = none := by
  obtain ⟨_, X, G⟩ := m.h
  exact He.free_ok X G (m.c.d.fact 37 (f := .free "max") rfl)
theorem M.fr_min (m : M K mg) : mg "min" = none := by
  obtain ⟨_, X, G⟩ := m.h
  exact He.free_ok X G (m.c.d.fact 38 (f := .free "min") rfl)
theorem M.fr_int (m : M K mg) : mg "int" = none := by
  obtain ⟨_, X, G⟩ := m.h
  exact He.free_ok X G (m.c.d.fact 39 (f := .free "int") rfl)
theorem M.fr_sorted (m : M K mg) : mg "sorted" = none := by
  obtain ⟨_, X, G⟩ := m.h
  exact He.free_ok X G (m.c.d.fact 40 (f := .free "sorted") rfl)
theorem M.fr_set (m : M K mg) : mg "set" = none := by
  obtain ⟨_, X, G⟩ := m.h
  exact He.free_ok X G (m.c.d.fact 41 (f := .free "set") rfl)
theorem M.fr_list (m : M K mg) : mg "list" = none := by
  obtain ⟨_, X, G⟩ := m.h
  exact He.free_ok X G (m.c.d.fact 42 (f := .free "list") rfl)
theorem M.fr_super (m : M K mg) : mg "super" = none := by
  obtain ⟨_, X, G⟩ := m.h
  exact He.free_ok X G (m.c.d.fact 43 (f := .free "super") rfl)
theorem M.in_MOST_WORTHS (m : M K mg) : ∃ t, mg "MOST_WORTHS" = some (.int 6 t) := by
  obtain ⟨_, X, G⟩ := m.h
  exact He.int_ok X G (m.c.d.fact 44 (f := .int "MOST_WORTHS" 6) rfl)
theorem M.in_MOST_WORTH (m : M K mg) : ∃ t, mg "MOST_WORTH" = some (.int 1000 t) := by
  obtain ⟨_, X, G⟩ := m.h
  exact He.int_ok X G (m.c.d.fact 45 (f := .int "MOST_WORTH" 1000) rfl)
theorem M.in_MOST_WEIGHT (m : M K mg) : ∃ t, mg "MOST_WEIGHT" = some (.int 100 t) := by
  obtain ⟨_, X, G⟩ := m.h
  exact He.int_ok X G (m.c.d.fact 46 (f := .int "MOST_WEIGHT" 100) rfl)
theorem M.fn_common (m : M K mg) : ∃ fd, FnP K "common" st_common (He.ga K "common") fd := m.c.d.def_ 0 (d := dd_common) rfl
theorem M.fn_plain (m : M K mg) : ∃ fd, FnP K "plain" st_plain (He.ga K "plain") fd := m.c.d.def_ 1 (d := dd_plain) rfl
theorem M.fn_is_belief (m : M K mg) : ∃ fd, FnP K "is_belief" st_is_belief (He.ga K "is_belief") fd := m.c.d.def_ 2 (d := dd_is_belief) rfl
theorem M.fn_check_belief (m : M K mg) : ∃ fd, FnP K "check_belief" st_check_belief (He.ga K "check_belief") fd := m.c.d.def_ 3 (d := dd_check_belief) rfl
theorem M.fn_weight_of (m : M K mg) : ∃ fd, FnP K "weight_of" st_weight_of (He.ga K "weight_of") fd := m.c.d.def_ 4 (d := dd_weight_of) rfl
theorem M.fn_gains_in (m : M K mg) : ∃ fd, FnP K "gains_in" st_gains_in (He.ga K "gains_in") fd := m.c.d.def_ 5 (d := dd_gains_in) rfl
theorem M.fn_gains_of (m : M K mg) : ∃ fd, FnP K "gains_of" st_gains_of (He.ga K "gains_of") fd := m.c.d.def_ 6 (d := dd_gains_of) rfl
theorem M.fn_is_more (m : M K mg) : ∃ fd, FnP K "is_more" st_is_more (He.ga K "is_more") fd := m.c.d.def_ 7 (d := dd_is_more) rfl
theorem M.fn_smooth_in (m : M K mg) : ∃ fd, FnP K "smooth_in" st_smooth_in (He.ga K "smooth_in") fd := m.c.d.def_ 8 (d := dd_smooth_in) rfl
theorem M.fn_mean_of (m : M K mg) : ∃ fd, FnP K "mean_of" st_mean_of (He.ga K "mean_of") fd := m.c.d.def_ 9 (d := dd_mean_of) rfl
theorem M.fn_smooth_of (m : M K mg) : ∃ fd, FnP K "smooth_of" st_smooth_of (He.ga K "smooth_of") fd := m.c.d.def_ 10 (d := dd_smooth_of) rfl
theorem M.fn_posted (m : M K mg) : ∃ fd, FnP K "posted" st_posted (He.ga K "posted") fd := m.c.d.def_ 11 (d := dd_posted) rfl
theorem M.fn__law_draws (m : M K mg) : ∃ fd, FnP K "_law_draws" st__law_draws (He.ga K "_law_draws") fd := m.c.d.def_ 12 (d := dd__law_draws) rfl
theorem M.fn__law_mix (m : M K mg) : ∃ fd, FnP K "_law_mix" st__law_mix (He.ga K "_law_mix") fd := m.c.d.def_ 13 (d := dd__law_mix) rfl
theorem M.fn__law_common (m : M K mg) : ∃ fd, FnP K "_law_common" st__law_common (He.ga K "_law_common") fd := m.c.d.def_ 14 (d := dd__law_common) rfl
theorem M.fn__law_low (m : M K mg) : ∃ fd, FnP K "_law_low" st__law_low (He.ga K "_law_low") fd := m.c.d.def_ 15 (d := dd__law_low) rfl
theorem M.fn__law_add (m : M K mg) : ∃ fd, FnP K "_law_add" st__law_add (He.ga K "_law_add") fd := m.c.d.def_ 16 (d := dd__law_add) rfl
theorem M.fn__law_times (m : M K mg) : ∃ fd, FnP K "_law_times" st__law_times (He.ga K "_law_times") fd := m.c.d.def_ 17 (d := dd__law_times) rfl
theorem M.fn__law_sum (m : M K mg) : ∃ fd, FnP K "_law_sum" st__law_sum (He.ga K "_law_sum") fd := m.c.d.def_ 18 (d := dd__law_sum) rfl
theorem M.fn__law_belief (m : M K mg) : ∃ fd, FnP K "_law_belief" st__law_belief (He.ga K "_law_belief") fd := m.c.d.def_ 19 (d := dd__law_belief) rfl
theorem M.fn__law_gains (m : M K mg) : ∃ fd, FnP K "_law_gains" st__law_gains (He.ga K "_law_gains") fd := m.c.d.def_ 20 (d := dd__law_gains) rfl
theorem M.fn__law_mean (m : M K mg) : ∃ fd, FnP K "_law_mean" st__law_mean (He.ga K "_law_mean") fd := m.c.d.def_ 21 (d := dd__law_mean) rfl
theorem M.fn__law_is_less (m : M K mg) : ∃ fd, FnP K "_law_is_less" st__law_is_less (He.ga K "_law_is_less") fd := m.c.d.def_ 22 (d := dd__law_is_less) rfl
theorem M.fn__law_greatest (m : M K mg) : ∃ fd, FnP K "_law_greatest" st__law_greatest (He.ga K "_law_greatest") fd := m.c.d.def_ 23 (d := dd__law_greatest) rfl
theorem M.fn__law_least (m : M K mg) : ∃ fd, FnP K "_law_least" st__law_least (He.ga K "_law_least") fd := m.c.d.def_ 24 (d := dd__law_least) rfl
theorem M.fn__law_smooth (m : M K mg) : ∃ fd, FnP K "_law_smooth" st__law_smooth (He.ga K "_law_smooth") fd := m.c.d.def_ 25 (d := dd__law_smooth) rfl
theorem M.fn__law_word (m : M K mg) : ∃ fd, FnP K "_law_word" st__law_word (He.ga K "_law_word") fd := m.c.d.def_ 26 (d := dd__law_word) rfl
theorem M.fn_law (m : M K mg) : ∃ fd, FnP K "law" st_law (He.ga K "law") fd := m.c.d.def_ 27 (d := dd_law) rfl
theorem M.ex_BadWorths (m : M K mg) : ExcOk K (He.ga K "AuctionError") (iA K "AuctionError") (He.ga K "BadWorths") := (exOkB_ok (m.c.b.2.1 "BadWorths" (by decide))).1
theorem M.xf_BadWorths (m : M K mg) : XfC K (He.ga K "BadWorths") := (exOkB_ok (m.c.b.2.1 "BadWorths" (by decide))).2
theorem isc : InitSc initSt := ⟨rfl, rfl, rfl, rfl, rfl, rfl, rfl, by decide +kernel, fun x h => by
    have key : ∀ y ∈ (defScope initSt).names, y.2 = .free → y.1 = ("__class__" : Str) := by decide +kernel
    exact key _ (PySem.mem_of_lookup h) rfl, rfl, ⟨_, _, _, _, _, _, _, _, _, _, rfl, fun env => ⟨_, rfl⟩, rfl⟩⟩
theorem M.init (m : M K mg) : ∃ fd, InitF PP K mg "AuctionError.__init__" initSt (iA K "AuctionError") fd (He.ga K "AuctionError") (cA K "AuctionError") ∧ Binds K fd ["self", "at"] [] := by
  obtain ⟨fd, I⟩ := inB_ok (P := PP) (mg := mg) (D := "AuctionError") (qual := "AuctionError.__init__") (st := initSt) m.c.b.1 m.c.i m.fr_super (by decide +kernel)
  refine ⟨fd, I, ?_⟩
  obtain ⟨oc, od, kV, doc, pm, an, cda, ct, osl, ccl, cdd, vs, ccs, file, tf, rfl, _⟩ := I.ex
  exact .all fun us hl => match us, hl with | [_, _], _ => rfl
end
def m_common : List PyData → Res PyData := mDef 2 2 (
 sSeq (sParM [2, 3] (mVal (e1 absD (eCons (eVarB 0) eNil)) (mVal (e1 absD (eCons (eVarB 1) eNil)) (mNil))))
      (sSeq (sWhile 100000 (eTb (e2 gtD (eVarB 3) (eC (.int 0))))
      (sParM [2, 3] (mVal (eVar 3) (mVal (e2 modD (eVarB 2) (eVarB 3)) (mNil)))))
      (sRet (eVar 2))))
theorem sc_common : FnScope ["one", "two", "a", "b"] ["one", "two"] (defScope st_common) := ⟨rfl, rfl, rfl, by decide +kernel, rfl, by decide +kernel, by decide +kernel⟩
theorem ok_common {w : World} {K : PySem.W.Frag} {mg : Str → Option Value} {base : Heap} (m : M K mg) {fd : FuncData} (F : FnP K "common" st_common (He.ga K "common") fd) : FnOk PP w K mg base (L2.CX PP w) 1 (He.ga K "common") fd ["one", "two"] (spOf K mg 2 m_common) := by
  exact fnD_ok F sc_common rfl rfl (by decide) fun cdv A outer s H E hr =>
   ps_seq (pq_parM (i := 2) (j := 3) rfl sc_common.nd rfl rfl (by decide) rfl rfl (pf_mval (pf_abs (m.fr_abs) (pf_varB 0)) (pf_mval (pf_abs (m.fr_abs) (pf_varB 1)) (pf_mnil))))
      (ps_seq (pq_while 100000 (passes_of rfl) (pf_cmpT cm_gt (pf_varB 3) (pf_b (pf_int)))
      (ps_1 (pq_parM (i := 2) (j := 3) rfl sc_common.nd rfl rfl (by decide) rfl rfl (pf_mval (pf_var 3) (pf_mval (pf_mod (pf_varB 2) (pf_varB 3)) (pf_mnil))))))
      (ps_1 (pq_ret (pf_var 2))))
def m_plain : List PyData → Res PyData := mDef 2 1 (
 sSeq (sSet 2 (eCall m_common (eCons (eVar 0) (eCons (eVar 1) (eNil)))))
      (sRet (e1 tupD (eCons (e2 divD (eVarB 0) (eVarB 2)) (eCons (e2 divD (eVarB 1) (eVarB 2)) (eNil))))))
theorem sc_plain : FnScope ["n", "d", "k"] ["n", "d"] (defScope st_plain) := ⟨rfl, rfl, rfl, by decide +kernel, rfl, by decide +kernel, by decide +kernel⟩
theorem ok_plain {w : World} {K : PySem.W.Frag} {mg : Str → Option Value} {base : Heap} (m : M K mg) {fd : FuncData} (F : FnP K "plain" st_plain (He.ga K "plain") fd) : FnOk PP w K mg base (L2.CX PP w) 2 (He.ga K "plain") fd ["n", "d"] (spOf K mg 2 m_plain) := by
  obtain ⟨fd_common, F_common⟩ := m.fn_common
  have k_common := ok_common (w := w) (base := base) m F_common
  have b_common : Binds K fd_common ["one", "two"] [] := FunD.bindsN (ps := ["one", "two"]) F_common fun _ _ _ _ _ _ us hl => match us, hl with | [_, _], _ => rfl
  exact fnD_ok F sc_plain rfl rfl (by decide) fun cdv A outer s H E hr =>
   ps_seq (pq_set (i := 2) sc_plain.nd rfl (by first | exact Or.inl rfl | exact Or.inr rfl) (pf_call k_common (hr.mono (by decide)) rfl m.gl_common F_common.kp b_common (takes_of rfl rfl rfl rfl) (pf_cons (pf_var 0) (pf_cons (pf_var 1) (pf_nil))) (len_cons (len_cons (len_nil)))))
      (ps_1 (pq_ret (pf_tup (pf_cons (pf_div (pf_varB 0) (pf_varB 2)) (pf_cons (pf_div (pf_varB 1) (pf_varB 2)) (pf_nil))) (by decide) (len_cons (len_cons (len_nil))))))
def m_is_belief : List PyData → Res PyData := mDef 1 6 (
 sSeq (sIf (eOr (eNot (eChain leD leD (eC (.int 1)) (e1 lenD (eCons (eVarB 0) eNil)) (eC (.int 6)))) (eNot (eTb (e1 allD (eCons (e1 listD (eComp [2, 3] (e1 itL (eVarB 0)) (gUnp (gsCons (gSet 2) (gsCons (gSet 3) (gsNil)))) (eTrue) (eBool (eChain leD leD (eC (.int 0)) (eVarB 2) (eC (.int 1000)))))) eNil)))))
      (sRet (eC (.bool false)))
      (sPass))
      (sSeq (sSet 1 (e1 allD (eCons (e1 listD (eComp [4, 5] (e1 zipL (eCons (eVarB 0) (eCons (eSl slT (eVarB 0) (e1 asI (eC (.int 1))) (eNone)) (eNil)))) (gUnp (gsCons (gSet 4) (gsCons (gSet 5) (gsNil)))) (eTrue) (e2 ltD (e2 ixD (eVarB 4) (eC (.int 0))) (e2 ixD (eVarB 5) (eC (.int 0)))))) eNil)))
      (sRet (eBool (eAnd (eTb (eVarB 1)) (eTb (e1 allD (eCons (e1 listD (eComp [3, 6] (e1 itL (eVarB 0)) (gUnp (gsCons (gSet 3) (gsCons (gSet 6) (gsNil)))) (eTrue) (eBool (eChain leD leD (eC (.int 1)) (eVarB 6) (eC (.int 100)))))) eNil))))))))
theorem sc_is_belief : FnScope ["told", "rises", "worth", "_", "one", "two", "weight"] ["told"] (defScope st_is_belief) := ⟨rfl, rfl, rfl, by decide +kernel, rfl, by decide +kernel, by decide +kernel⟩
theorem ok_is_belief {w : World} {K : PySem.W.Frag} {mg : Str → Option Value} {base : Heap} (m : M K mg) {fd : FuncData} (F : FnP K "is_belief" st_is_belief (He.ga K "is_belief") fd) : FnOk PP w K mg base (L2.CX PP w) 1 (He.ga K "is_belief") fd ["told"] (spOf K mg 1 m_is_belief) := by
  exact fnD_ok F sc_is_belief rfl rfl (by decide) fun cdv A outer s H E hr =>
   ps_seq (pq_if (PW.pt (pf_or (pf_not (pf_chainT cm_le cm_le (pf_b (pf_int)) (pf_b (pf_len (m.fr_len) (pf_varB 0))) (pf_b (pf_gint rfl (m.in_MOST_WORTHS))))) (pf_or1 (pf_not (pf_tv (pf_b (pf_all rfl (m.fr_all) (pf_b (pf_n (pf_lc (own := [("worth", 2), ("_", 3)]) rfl sc_is_belief.nd (pf_iB rfl (pf_varB 0)) (blkOk_by (by kernel_rfl)) (fun _ _ _ _ _ => pf_gtup rfl rfl (pf_gcons (pf_gname 2 sc_is_belief.nd rfl (by first | exact Or.inl rfl | exact Or.inr rfl)) (pf_gcons (pf_gname 3 sc_is_belief.nd rfl (by first | exact Or.inl rfl | exact Or.inr rfl)) (pf_gnil))) (gsCons_len (gsCons_len (gsNil_len)))) (fun _ _ _ _ _ => pf_tyes) (fun _ _ _ _ _ => pf_chainV cm_le cm_le (pf_b (pf_int)) (pf_varB 2) (pf_b (pf_gint rfl (m.in_MOST_WORTH))))))))))))))
      (ps_1 (pq_ret (pf_bl)))
      (ps_nil))
      (ps_seq (pq_set (i := 1) sc_is_belief.nd rfl (by first | exact Or.inl rfl | exact Or.inr rfl) (pf_all rfl (m.fr_all) (pf_b (pf_n (pf_lc (own := [("one", 4), ("two", 5)]) rfl sc_is_belief.nd (pf_zipB rfl rfl (m.fr_zip) (pf_consB (pf_varB 0) (pf_consB (pf_b (pf_slF rfl (pf_varB 0) (pf_psome (pf_b (pf_int))) (pf_pnone))) (pf_nilB)))) (blkOk_by (by kernel_rfl)) (fun _ _ _ _ _ => pf_gtup rfl rfl (pf_gcons (pf_gname 4 sc_is_belief.nd rfl (by first | exact Or.inl rfl | exact Or.inr rfl)) (pf_gcons (pf_gname 5 sc_is_belief.nd rfl (by first | exact Or.inl rfl | exact Or.inr rfl)) (pf_gnil))) (gsCons_len (gsCons_len (gsNil_len)))) (fun _ _ _ _ _ => pf_tyes) (fun _ _ _ _ _ => pf_cmpV cm_lt (pf_b (pf_sub1 rfl (pf_varB 4) (pf_b (pf_int)))) (pf_b (pf_sub1 rfl (pf_varB 5) (pf_b (pf_int))))))))))
      (ps_1 (pq_ret (pf_vand (pf_varB 1) (pf_v1 (pf_b (pf_all rfl (m.fr_all) (pf_b (pf_n (pf_lc (own := [("_", 3), ("weight", 6)]) rfl sc_is_belief.nd (pf_iB rfl (pf_varB 0)) (blkOk_by (by kernel_rfl)) (fun _ _ _ _ _ => pf_gtup rfl rfl (pf_gcons (pf_gname 3 sc_is_belief.nd rfl (by first | exact Or.inl rfl | exact Or.inr rfl)) (pf_gcons (pf_gname 6 sc_is_belief.nd rfl (by first | exact Or.inl rfl | exact Or.inr rfl)) (pf_gnil))) (gsCons_len (gsCons_len (gsNil_len)))) (fun _ _ _ _ _ => pf_tyes) (fun _ _ _ _ _ => pf_chainV cm_le cm_le (pf_b (pf_int)) (pf_varB 6) (pf_b (pf_gint rfl (m.in_MOST_WEIGHT))))))))))))))
def m_check_belief : List PyData → Res PyData := mDef 1 0 (
 sIf (eNot (eTb (eCall m_is_belief (eCons (eVar 0) (eNil)))))
      (sRaise "BadWorths" (eC (.int 0)))
      (sPass))
theorem sc_check_belief : FnScope ["belief"] ["belief"] (defScope st_check_belief) := ⟨rfl, rfl, rfl, by decide +kernel, rfl, by decide +kernel, by decide +kernel⟩
theorem ok_check_belief {w : World} {K : PySem.W.Frag} {mg : Str → Option Value} {base : Heap} (m : M K mg) {fd : FuncData} (F : FnP K "check_belief" st_check_belief (He.ga K "check_belief") fd) : FnOk PP w K mg base (L2.CX PP w) 3 (He.ga K "check_belief") fd ["belief"] (spOf K mg 1 m_check_belief) := by
  obtain ⟨fd_is_belief, F_is_belief⟩ := m.fn_is_belief
  have k_is_belief := ok_is_belief (w := w) (base := base) m F_is_belief
  have b_is_belief : Binds K fd_is_belief ["told"] [] := FunD.bindsN (ps := ["told"]) F_is_belief fun _ _ _ _ _ _ us hl => match us, hl with | [_], _ => rfl
  obtain ⟨fdI, Ii, bI⟩ := m.init
  exact fnD_ok F sc_check_belief rfl rfl (by decide) fun cdv A outer s H E hr =>
   ps_1 (pq_if (pf_not (pf_tv (pf_b (pf_call k_is_belief (hr.mono (by decide)) rfl m.gl_is_belief F_is_belief.kp b_is_belief (takes_of rfl rfl rfl rfl) (pf_cons (pf_var 0) (pf_nil)) (len_cons (len_nil))))))
      (ps_1 (pq_raise rfl (takes_of rfl rfl rfl rfl) m.ex_BadWorths (init_ok Ii isc) (hr.mono (by decide)) bI rfl m.gl_BadWorths (pf_b (pf_int))))
      (ps_nil))
def m_weight_of : List PyData → Res PyData := mDef 1 2 (
 sRet (e1 sumD (eCons (e1 listD (eComp [1, 2] (e1 itL (eVarB 0)) (gUnp (gsCons (gSet 1) (gsCons (gSet 2) (gsNil)))) (eTrue) (eVar 2))) eNil)))
theorem sc_weight_of : FnScope ["belief", "_", "weight"] ["belief"] (defScope st_weight_of) := ⟨rfl, rfl, rfl, by decide +kernel, rfl, by decide +kernel, by decide +kernel⟩
theorem ok_weight_of {w : World} {K : PySem.W.Frag} {mg : Str → Option Value} {base : Heap} (m : M K mg) {fd : FuncData} (F : FnP K "weight_of" st_weight_of (He.ga K "weight_of") fd) : FnOk PP w K mg base (L2.CX PP w) 1 (He.ga K "weight_of") fd ["belief"] (spOf K mg 1 m_weight_of) := by
  exact fnD_ok F sc_weight_of rfl rfl (by decide) fun cdv A outer s H E hr =>
   ps_1 (pq_ret (pf_sum rfl (m.fr_sum) (pf_b (pf_n (pf_lc (own := [("_", 1), ("weight", 2)]) rfl sc_weight_of.nd (pf_iB rfl (pf_varB 0)) (blkOk_by (by kernel_rfl)) (fun _ _ _ _ _ => pf_gtup rfl rfl (pf_gcons (pf_gname 1 sc_weight_of.nd rfl (by first | exact Or.inl rfl | exact Or.inr rfl)) (pf_gcons (pf_gname 2 sc_weight_of.nd rfl (by first | exact Or.inl rfl | exact Or.inr rfl)) (pf_gnil))) (gsCons_len (gsCons_len (gsNil_len)))) (fun _ _ _ _ _ => pf_tyes) (fun _ _ _ _ _ => pf_var 2))))))
def m_gains_in : List PyData → Res PyData := mDef 1 8 (
 sSeq (sSetN 1 (eNil))
      (sSeq (sFor (e1 enumL (eCons (eVar 0) eNil)) (gUnp (gsCons (gSet 2) (gsCons (gUnp (gsCons (gSet 3) (gsCons (gSet 4) (gsNil)))) (gsNil))))
      (sSeq (sSet 5 (e1 sumD (eCons (e1 listD (eComp [7, 8] (e1 itL (eSl slT (eVarB 0) (e1 asI (e2 addD (eVarB 2) (eC (.int 1)))) (eNone))) (gUnp (gsCons (gSet 7) (gsCons (gSet 8) (gsNil)))) (eTrue) (eVar 8))) eNil)))
      (sSeq (sSet 6 (eIf (eTb (e2 gtD (eVarB 5) (eC (.int 0)))) (e2 subD (e2 ixD (e2 ixD (eVarB 0) (e2 addD (eVarB 2) (eC (.int 1)))) (eC (.int 0))) (eVarB 3)) (eC (.int 0))))
      (sApp 1 (eCall m_plain (eCons (e2 subD (e2 mulD (eVarB 3) (eVarB 4)) (e2 mulD (eVarB 6) (eVarB 5))) (eCons (eVar 4) (eNil))))))))
      (sFrz [1] (sRet (eVar 1)))))
theorem sc_gains_in : FnScope ["belief", "found", "k", "worth", "weight", "above", "step", "_", "more"] ["belief"] (defScope st_gains_in) := ⟨rfl, rfl, rfl, by decide +kernel, rfl, by decide +kernel, by decide +kernel⟩
theorem ok_gains_in {w : World} {K : PySem.W.Frag} {mg : Str → Option Value} {base : Heap} (m : M K mg) {fd : FuncData} (F : FnP K "gains_in" st_gains_in (He.ga K "gains_in") fd) : FnOk PP w K mg base (L2.CX PP w) 3 (He.ga K "gains_in") fd ["belief"] (spOf K mg 1 m_gains_in) := by
  obtain ⟨fd_plain, F_plain⟩ := m.fn_plain
  have k_plain := ok_plain (w := w) (base := base) m F_plain
  have b_plain : Binds K fd_plain ["n", "d"] [] := FunD.bindsN (ps := ["n", "d"]) F_plain fun _ _ _ _ _ _ us hl => match us, hl with | [_, _], _ => rfl
  exact fnD_ok F sc_gains_in rfl rfl (by decide) fun cdv A outer s H E hr =>
   ps_seq (pq_setN (i := 1) sc_gains_in.nd rfl (by first | exact Or.inl rfl | exact Or.inr rfl) (pf_lst (pf_nil) (by decide) (len_nil)))
      (ps_seq (pq_for (passes_of rfl) rfl (pf_enumF rfl rfl (m.fr_enumerate) (pf_var 0)) (pf_gtup rfl rfl (pf_gcons (pf_gname 2 sc_gains_in.nd rfl (by first | exact Or.inl rfl | exact Or.inr rfl)) (pf_gcons (pf_gtup rfl rfl (pf_gcons (pf_gname 3 sc_gains_in.nd rfl (by first | exact Or.inl rfl | exact Or.inr rfl)) (pf_gcons (pf_gname 4 sc_gains_in.nd rfl (by first | exact Or.inl rfl | exact Or.inr rfl)) (pf_gnil))) (gsCons_len (gsCons_len (gsNil_len)))) (pf_gnil))) (gsCons_len (gsCons_len (gsNil_len))))
      (ps_seq (pq_set (i := 5) sc_gains_in.nd rfl (by first | exact Or.inl rfl | exact Or.inr rfl) (pf_sum rfl (m.fr_sum) (pf_b (pf_n (pf_lc (own := [("_", 7), ("more", 8)]) rfl sc_gains_in.nd (pf_iB rfl (pf_b (pf_slF rfl (pf_varB 0) (pf_psome (pf_b (pf_add rfl (pf_varB 2) (pf_b (pf_int))))) (pf_pnone)))) (blkOk_by (by kernel_rfl)) (fun _ _ _ _ _ => pf_gtup rfl rfl (pf_gcons (pf_gname 7 sc_gains_in.nd rfl (by first | exact Or.inl rfl | exact Or.inr rfl)) (pf_gcons (pf_gname 8 sc_gains_in.nd rfl (by first | exact Or.inl rfl | exact Or.inr rfl)) (pf_gnil))) (gsCons_len (gsCons_len (gsNil_len)))) (fun _ _ _ _ _ => pf_tyes) (fun _ _ _ _ _ => pf_var 8))))))
      (ps_seq (pq_set (i := 6) sc_gains_in.nd rfl (by first | exact Or.inl rfl | exact Or.inr rfl) (pf_ifE (.inl rfl) (pf_cmpT cm_gt (pf_varB 5) (pf_b (pf_int))) (pf_sub (pf_b (pf_sub1 rfl (pf_b (pf_sub1 rfl (pf_varB 0) (pf_b (pf_add rfl (pf_varB 2) (pf_b (pf_int)))))) (pf_b (pf_int)))) (pf_varB 3)) (pf_int)))
      (ps_1 (pq_app (i := 1) rfl (by first | exact Or.inl rfl | exact Or.inr (Or.inl rfl) | exact Or.inr (Or.inr rfl)) (pf_call k_plain (hr.mono (by decide)) rfl m.gl_plain F_plain.kp b_plain (takes_of rfl rfl rfl rfl) (pf_cons (pf_sub (pf_b (pf_mul (pf_varB 3) (pf_varB 4))) (pf_b (pf_mul (pf_varB 6) (pf_varB 5)))) (pf_cons (pf_var 4) (pf_nil))) (len_cons (len_cons (len_nil)))) (fun ho ha => pe_bm PySem.F.plainAttrs_list PySem.F.slot_list_append PySem.F.type_list_append mt_append ho ha))))))
      (ps_1 (pq_frz [1] (pq_ret (pf_var 1)))))
def m_gains_of : List PyData → Res PyData := mDef 1 0 (
 sSeq (sExpr (eCall m_check_belief (eCons (eVar 0) (eNil))))
      (sRet (eCall m_gains_in (eCons (eVar 0) (eNil)))))
theorem sc_gains_of : FnScope ["belief"] ["belief"] (defScope st_gains_of) := ⟨rfl, rfl, rfl, by decide +kernel, rfl, by decide +kernel, by decide +kernel⟩
theorem ok_gains_of {w : World} {K : PySem.W.Frag} {mg : Str → Option Value} {base : Heap} (m : M K mg) {fd : FuncData} (F : FnP K "gains_of" st_gains_of (He.ga K "gains_of") fd) : FnOk PP w K mg base (L2.CX PP w) 4 (He.ga K "gains_of") fd ["belief"] (spOf K mg 1 m_gains_of) := by
  obtain ⟨fd_check_belief, F_check_belief⟩ := m.fn_check_belief
  have k_check_belief := ok_check_belief (w := w) (base := base) m F_check_belief
  have b_check_belief : Binds K fd_check_belief ["belief"] [] := FunD.bindsN (ps := ["belief"]) F_check_belief fun _ _ _ _ _ _ us hl => match us, hl with | [_], _ => rfl
  obtain ⟨fd_gains_in, F_gains_in⟩ := m.fn_gains_in
  have k_gains_in := ok_gains_in (w := w) (base := base) m F_gains_in
  have b_gains_in : Binds K fd_gains_in ["belief"] [] := FunD.bindsN (ps := ["belief"]) F_gains_in fun _ _ _ _ _ _ us hl => match us, hl with | [_], _ => rfl
  exact fnD_ok F sc_gains_of rfl rfl (by decide) fun cdv A outer s H E hr =>
   ps_seq (pq_expr (pf_b (pf_call k_check_belief (hr.mono (by decide)) rfl m.gl_check_belief F_check_belief.kp b_check_belief (takes_of rfl rfl rfl rfl) (pf_cons (pf_var 0) (pf_nil)) (len_cons (len_nil)))))
      (ps_1 (pq_ret (pf_call k_gains_in (hr.mono (by decide)) rfl m.gl_gains_in F_gains_in.kp b_gains_in (takes_of rfl rfl rfl rfl) (pf_cons (pf_var 0) (pf_nil)) (len_cons (len_nil)))))
def m_is_more : List PyData → Res PyData := mDef 2 0 (
 sRet (e2 gtD (e2 mulD (e2 ixD (eVarB 0) (eC (.int 0))) (e2 ixD (eVarB 1) (eC (.int 1)))) (e2 mulD (e2 ixD (eVarB 1) (eC (.int 0))) (e2 ixD (eVarB 0) (eC (.int 1))))))
theorem sc_is_more : FnScope ["one", "two"] ["one", "two"] (defScope st_is_more) := ⟨rfl, rfl, rfl, by decide +kernel, rfl, by decide +kernel, by decide +kernel⟩
theorem ok_is_more {w : World} {K : PySem.W.Frag} {mg : Str → Option Value} {base : Heap} (m : M K mg) {fd : FuncData} (F : FnP K "is_more" st_is_more (He.ga K "is_more") fd) : FnOk PP w K mg base (L2.CX PP w) 1 (He.ga K "is_more") fd ["one", "two"] (spOf K mg 2 m_is_more) := by
  exact fnD_ok F sc_is_more rfl rfl (by decide) fun cdv A outer s H E hr =>
   ps_1 (pq_ret (pf_cmpV cm_gt (pf_b (pf_mul (pf_b (pf_sub1 rfl (pf_varB 0) (pf_b (pf_int)))) (pf_b (pf_sub1 rfl (pf_varB 1) (pf_b (pf_int)))))) (pf_b (pf_mul (pf_b (pf_sub1 rfl (pf_varB 1) (pf_b (pf_int)))) (pf_b (pf_sub1 rfl (pf_varB 0) (pf_b (pf_int))))))))
def m_mean_of : List PyData → Res PyData := mDef 1 4 (
 sSeq (sAsg (gUnp (gsCons (gUnp (gsCons (gSet 1) (gsCons (gSet 2) (gsNil)))) (gsCons (gSet 3) (gsCons (gSet 4) (gsNil))))) (eVar 0))
      (sRet (eCall m_plain (eCons (eVar 1) (eCons (e2 mulD (eVarB 2) (eVarB 3)) (eNil))))))
theorem sc_mean_of : FnScope ["group", "n", "d", "weight", "_"] ["group"] (defScope st_mean_of) := ⟨rfl, rfl, rfl, by decide +kernel, rfl, by decide +kernel, by decide +kernel⟩
theorem ok_mean_of {w : World} {K : PySem.W.Frag} {mg : Str → Option Value} {base : Heap} (m : M K mg) {fd : FuncData} (F : FnP K "mean_of" st_mean_of (He.ga K "mean_of") fd) : FnOk PP w K mg base (L2.CX PP w) 3 (He.ga K "mean_of") fd ["group"] (spOf K mg 1 m_mean_of) := by
  obtain ⟨fd_plain, F_plain⟩ := m.fn_plain
  have k_plain := ok_plain (w := w) (base := base) m F_plain
  have b_plain : Binds K fd_plain ["n", "d"] [] := FunD.bindsN (ps := ["n", "d"]) F_plain fun _ _ _ _ _ _ us hl => match us, hl with | [_, _], _ => rfl
  exact fnD_ok F sc_mean_of rfl rfl (by decide) fun cdv A outer s H E hr =>
   ps_seq (pq_asg (pf_var 0) (pf_gtup rfl rfl (pf_gcons (pf_gtup rfl rfl (pf_gcons (pf_gname 1 sc_mean_of.nd rfl (by first | exact Or.inl rfl | exact Or.inr rfl)) (pf_gcons (pf_gname 2 sc_mean_of.nd rfl (by first | exact Or.inl rfl | exact Or.inr rfl)) (pf_gnil))) (gsCons_len (gsCons_len (gsNil_len)))) (pf_gcons (pf_gname 3 sc_mean_of.nd rfl (by first | exact Or.inl rfl | exact Or.inr rfl)) (pf_gcons (pf_gname 4 sc_mean_of.nd rfl (by first | exact Or.inl rfl | exact Or.inr rfl)) (pf_gnil)))) (gsCons_len (gsCons_len (gsCons_len (gsNil_len))))))
      (ps_1 (pq_ret (pf_call k_plain (hr.mono (by decide)) rfl m.gl_plain F_plain.kp b_plain (takes_of rfl rfl rfl rfl) (pf_cons (pf_var 1) (pf_cons (pf_mul (pf_varB 2) (pf_varB 3)) (pf_nil))) (len_cons (len_cons (len_nil))))))
def m_smooth_in : List PyData → Res PyData := mDef 1 9 (
 sSeq (sSetN 1 (eNil))
      (sSeq (sFor (e1 zipL (eCons (eCall m_gains_in (eCons (eVar 0) (eNil))) (eCons (eVar 0) (eNil)))) (gUnp (gsCons (gUnp (gsCons (gSet 2) (gsCons (gSet 3) (gsNil)))) (gsCons (gUnp (gsCons (gSet 4) (gsCons (gSet 5) (gsNil)))) (gsNil))))
      (sSeq (sApp 1 (e1 tupD (eCons (eCall m_plain (eCons (e2 mulD (eVarB 2) (eVarB 5)) (eCons (eVar 3) (eNil)))) (eCons (eVar 5) (eCons (eC (.int 1)) (eNil))))))
      (sWhile 100000 (eAnd (eTb (e2 gtD (e1 lenD (eCons (eVarB 1) eNil)) (eC (.int 1)))) (eTb (eCall m_is_more (eCons (eCall m_mean_of (eCons (e2 ixD (eVarB 1) (e1 negD (eC (.int 2)))) (eNil))) (eCons (eCall m_mean_of (eCons (e2 ixD (eVarB 1) (e1 negD (eC (.int 1)))) (eNil))) (eNil))))))
      (sSeq (sAsg (gUnp (gsCons (gSet 6) (gsCons (gSet 7) (gsNil)))) (eSl slT (eVarB 1) (e1 asI (e1 negD (eC (.int 2)))) (eNone)))
      (sSeq (sSet 8 (eCall m_plain (eCons (e2 addD (e2 mulD (e2 ixD (e2 ixD (eVarB 6) (eC (.int 0))) (eC (.int 0))) (e2 ixD (e2 ixD (eVarB 7) (eC (.int 0))) (eC (.int 1)))) (e2 mulD (e2 ixD (e2 ixD (eVarB 7) (eC (.int 0))) (eC (.int 0))) (e2 ixD (e2 ixD (eVarB 6) (eC (.int 0))) (eC (.int 1))))) (eCons (e2 mulD (e2 ixD (e2 ixD (eVarB 6) (eC (.int 0))) (eC (.int 1))) (e2 ixD (e2 ixD (eVarB 7) (eC (.int 0))) (eC (.int 1)))) (eNil)))))
      (sSetN 1 (e1 lenOk (eStar (eSl slT (eVarB 1) (eNone) (e1 asI (e1 negD (eC (.int 2))))) (eCons (e1 tupD (eCons (eVar 8) (eCons (e2 addD (e2 ixD (eVarB 6) (eC (.int 1))) (e2 ixD (eVarB 7) (eC (.int 1)))) (eCons (e2 addD (e2 ixD (eVarB 6) (eC (.int 2))) (e2 ixD (eVarB 7) (eC (.int 2)))) (eNil))))) (eNil))))))))))
      (sRet (e1 listD (eComp2 [9, 4] (e1 itL (eVarB 1)) (gSet 9) (eTrue) (e1 rg1 (eCons (e2 ixD (eVarB 9) (eC (.int 2))) (eNil))) [4] (gSet 4) (eTrue) (eCall m_mean_of (eCons (eVar 9) (eNil))))))))
theorem sc_smooth_in : FnScope ["belief", "groups", "n", "d", "_", "weight", "one", "two", "whole", "group"] ["belief"] (defScope st_smooth_in) := ⟨rfl, rfl, rfl, by decide +kernel, rfl, by decide +kernel, by decide +kernel⟩
theorem ok_smooth_in {w : World} {K : PySem.W.Frag} {mg : Str → Option Value} {base : Heap} (m : M K mg) {fd : FuncData} (F : FnP K "smooth_in" st_smooth_in (He.ga K "smooth_in") fd) : FnOk PP w K mg base (L2.CX PP w) 4 (He.ga K "smooth_in") fd ["belief"] (spOf K mg 1 m_smooth_in) := by
  obtain ⟨fd_gains_in, F_gains_in⟩ := m.fn_gains_in
  have k_gains_in := ok_gains_in (w := w) (base := base) m F_gains_in
  have b_gains_in : Binds K fd_gains_in ["belief"] [] := FunD.bindsN (ps := ["belief"]) F_gains_in fun _ _ _ _ _ _ us hl => match us, hl with | [_], _ => rfl
  obtain ⟨fd_plain, F_plain⟩ := m.fn_plain
  have k_plain := ok_plain (w := w) (base := base) m F_plain
  have b_plain : Binds K fd_plain ["n", "d"] [] := FunD.bindsN (ps := ["n", "d"]) F_plain fun _ _ _ _ _ _ us hl => match us, hl with | [_, _], _ => rfl
  obtain ⟨fd_mean_of, F_mean_of⟩ := m.fn_mean_of
  have k_mean_of := ok_mean_of (w := w) (base := base) m F_mean_of
  have b_mean_of : Binds K fd_mean_of ["group"] [] := FunD.bindsN (ps := ["group"]) F_mean_of fun _ _ _ _ _ _ us hl => match us, hl with | [_], _ => rfl
  obtain ⟨fd_is_more, F_is_more⟩ := m.fn_is_more
  have k_is_more := ok_is_more (w := w) (base := base) m F_is_more
  have b_is_more : Binds K fd_is_more ["one", "two"] [] := FunD.bindsN (ps := ["one", "two"]) F_is_more fun _ _ _ _ _ _ us hl => match us, hl with | [_, _], _ => rfl
  exact fnD_ok F sc_smooth_in rfl rfl (by decide) fun cdv A outer s H E hr =>
   ps_seq (pq_setN (i := 1) sc_smooth_in.nd rfl (by first | exact Or.inl rfl | exact Or.inr rfl) (pf_lst (pf_nil) (by decide) (len_nil)))
      (ps_seq (pq_for (passes_of rfl) rfl (pf_zipF rfl rfl (m.fr_zip) (pf_cons (pf_call k_gains_in (hr.mono (by decide)) rfl m.gl_gains_in F_gains_in.kp b_gains_in (takes_of rfl rfl rfl rfl) (pf_cons (pf_var 0) (pf_nil)) (len_cons (len_nil))) (pf_cons (pf_var 0) (pf_nil)))) (pf_gtup rfl rfl (pf_gcons (pf_gtup rfl rfl (pf_gcons (pf_gname 2 sc_smooth_in.nd rfl (by first | exact Or.inl rfl | exact Or.inr rfl)) (pf_gcons (pf_gname 3 sc_smooth_in.nd rfl (by first | exact Or.inl rfl | exact Or.inr rfl)) (pf_gnil))) (gsCons_len (gsCons_len (gsNil_len)))) (pf_gcons (pf_gtup rfl rfl (pf_gcons (pf_gname 4 sc_smooth_in.nd rfl (by first | exact Or.inl rfl | exact Or.inr rfl)) (pf_gcons (pf_gname 5 sc_smooth_in.nd rfl (by first | exact Or.inl rfl | exact Or.inr rfl)) (pf_gnil))) (gsCons_len (gsCons_len (gsNil_len)))) (pf_gnil))) (gsCons_len (gsCons_len (gsNil_len))))
      (ps_seq (pq_app (i := 1) rfl (by first | exact Or.inl rfl | exact Or.inr (Or.inl rfl) | exact Or.inr (Or.inr rfl)) (pf_tup (pf_cons (pf_call k_plain (hr.mono (by decide)) rfl m.gl_plain F_plain.kp b_plain (takes_of rfl rfl rfl rfl) (pf_cons (pf_mul (pf_varB 2) (pf_varB 5)) (pf_cons (pf_var 3) (pf_nil))) (len_cons (len_cons (len_nil)))) (pf_cons (pf_var 5) (pf_cons (pf_int) (pf_nil)))) (by decide) (len_cons (len_cons (len_cons (len_nil))))) (fun ho ha => pe_bm PySem.F.plainAttrs_list PySem.F.slot_list_append PySem.F.type_list_append mt_append ho ha))
      (ps_1 (pq_while 100000 (passes_of rfl) (PW.pt (pf_and (pf_cmpT cm_gt (pf_b (pf_len (m.fr_len) (pf_varB 1))) (pf_b (pf_int))) (pf_and1 (pf_tv (pf_b (pf_call k_is_more (hr.mono (by decide)) rfl m.gl_is_more F_is_more.kp b_is_more (takes_of rfl rfl rfl rfl) (pf_cons (pf_call k_mean_of (hr.mono (by decide)) rfl m.gl_mean_of F_mean_of.kp b_mean_of (takes_of rfl rfl rfl rfl) (pf_cons (pf_sub1 rfl (pf_varB 1) (pf_b (pf_neg (pf_b (pf_int))))) (pf_nil)) (len_cons (len_nil))) (pf_cons (pf_call k_mean_of (hr.mono (by decide)) rfl m.gl_mean_of F_mean_of.kp b_mean_of (takes_of rfl rfl rfl rfl) (pf_cons (pf_sub1 rfl (pf_varB 1) (pf_b (pf_neg (pf_b (pf_int))))) (pf_nil)) (len_cons (len_nil))) (pf_nil))) (len_cons (len_cons (len_nil)))))))))
      (ps_seq (pq_asg (pf_slF rfl (pf_varB 1) (pf_psome (pf_b (pf_neg (pf_b (pf_int))))) (pf_pnone)) (pf_gtup rfl rfl (pf_gcons (pf_gname 6 sc_smooth_in.nd rfl (by first | exact Or.inl rfl | exact Or.inr rfl)) (pf_gcons (pf_gname 7 sc_smooth_in.nd rfl (by first | exact Or.inl rfl | exact Or.inr rfl)) (pf_gnil))) (gsCons_len (gsCons_len (gsNil_len)))))
      (ps_seq (pq_set (i := 8) sc_smooth_in.nd rfl (by first | exact Or.inl rfl | exact Or.inr rfl) (pf_call k_plain (hr.mono (by decide)) rfl m.gl_plain F_plain.kp b_plain (takes_of rfl rfl rfl rfl) (pf_cons (pf_add rfl (pf_b (pf_mul (pf_b (pf_sub1 rfl (pf_b (pf_sub1 rfl (pf_varB 6) (pf_b (pf_int)))) (pf_b (pf_int)))) (pf_b (pf_sub1 rfl (pf_b (pf_sub1 rfl (pf_varB 7) (pf_b (pf_int)))) (pf_b (pf_int)))))) (pf_b (pf_mul (pf_b (pf_sub1 rfl (pf_b (pf_sub1 rfl (pf_varB 7) (pf_b (pf_int)))) (pf_b (pf_int)))) (pf_b (pf_sub1 rfl (pf_b (pf_sub1 rfl (pf_varB 6) (pf_b (pf_int)))) (pf_b (pf_int))))))) (pf_cons (pf_mul (pf_b (pf_sub1 rfl (pf_b (pf_sub1 rfl (pf_varB 6) (pf_b (pf_int)))) (pf_b (pf_int)))) (pf_b (pf_sub1 rfl (pf_b (pf_sub1 rfl (pf_varB 7) (pf_b (pf_int)))) (pf_b (pf_int))))) (pf_nil))) (len_cons (len_cons (len_nil)))))
      (ps_1 (pq_setN (i := 1) sc_smooth_in.nd rfl (by first | exact Or.inl rfl | exact Or.inr rfl) (pf_lstV (pf_star (pf_b (pf_slF rfl (pf_varB 1) (pf_pnone) (pf_psome (pf_b (pf_neg (pf_b (pf_int))))))) (pf_cons (pf_tup (pf_cons (pf_var 8) (pf_cons (pf_add rfl (pf_b (pf_sub1 rfl (pf_varB 6) (pf_b (pf_int)))) (pf_b (pf_sub1 rfl (pf_varB 7) (pf_b (pf_int))))) (pf_cons (pf_add rfl (pf_b (pf_sub1 rfl (pf_varB 6) (pf_b (pf_int)))) (pf_b (pf_sub1 rfl (pf_varB 7) (pf_b (pf_int))))) (pf_nil)))) (by decide) (len_cons (len_cons (len_cons (len_nil))))) (pf_nil))))))))))))
      (ps_1 (pq_ret (pf_n (pf_lc2 (own := [("group", 9), ("_", 4)]) (own1 := [4]) rfl sc_smooth_in.nd (pf_iB rfl (pf_varB 1)) (blkOk_by (by kernel_rfl)) (by decide) (fun _ _ _ _ _ => pf_gname 9 sc_smooth_in.nd rfl (by first | exact Or.inl rfl | exact Or.inr rfl)) (fun _ _ _ _ _ => pf_tyes) (fun _ _ _ _ _ => pf_range1 rfl (m.fr_range) (pf_consB (pf_b (pf_sub1 rfl (pf_varB 9) (pf_b (pf_int)))) (pf_nilB))) (fun _ _ _ _ _ => pf_gname 4 sc_smooth_in.nd rfl (by first | exact Or.inl rfl | exact Or.inr rfl)) (fun _ _ _ _ _ => pf_tyes) (fun _ _ _ _ _ => pf_call k_mean_of (hr.mono (by decide)) rfl m.gl_mean_of F_mean_of.kp b_mean_of Pf.takes0 (pf_cons (pf_var 9) (pf_nil)) (len_cons (len_nil))))))))
def m_smooth_of : List PyData → Res PyData := mDef 1 0 (
 sSeq (sExpr (eCall m_check_belief (eCons (eVar 0) (eNil))))
      (sRet (eCall m_smooth_in (eCons (eVar 0) (eNil)))))
theorem sc_smooth_of : FnScope ["belief"] ["belief"] (defScope st_smooth_of) := ⟨rfl, rfl, rfl, by decide +kernel, rfl, by decide +kernel, by decide +kernel⟩
theorem ok_smooth_of {w : World} {K : PySem.W.Frag} {mg : Str → Option Value} {base : Heap} (m : M K mg) {fd : FuncData} (F : FnP K "smooth_of" st_smooth_of (He.ga K "smooth_of") fd) : FnOk PP w K mg base (L2.CX PP w) 5 (He.ga K "smooth_of") fd ["belief"] (spOf K mg 1 m_smooth_of) := by
  obtain ⟨fd_check_belief, F_check_belief⟩ := m.fn_check_belief
  have k_check_belief := ok_check_belief (w := w) (base := base) m F_check_belief
  have b_check_belief : Binds K fd_check_belief ["belief"] [] := FunD.bindsN (ps := ["belief"]) F_check_belief fun _ _ _ _ _ _ us hl => match us, hl with | [_], _ => rfl
  obtain ⟨fd_smooth_in, F_smooth_in⟩ := m.fn_smooth_in
  have k_smooth_in := ok_smooth_in (w := w) (base := base) m F_smooth_in
  have b_smooth_in : Binds K fd_smooth_in ["belief"] [] := FunD.bindsN (ps := ["belief"]) F_smooth_in fun _ _ _ _ _ _ us hl => match us, hl with | [_], _ => rfl
  exact fnD_ok F sc_smooth_of rfl rfl (by decide) fun cdv A outer s H E hr =>
   ps_seq (pq_expr (pf_b (pf_call k_check_belief (hr.mono (by decide)) rfl m.gl_check_belief F_check_belief.kp b_check_belief (takes_of rfl rfl rfl rfl) (pf_cons (pf_var 0) (pf_nil)) (len_cons (len_nil)))))
      (ps_1 (pq_ret (pf_call k_smooth_in (hr.mono (by decide)) rfl m.gl_smooth_in F_smooth_in.kp b_smooth_in (takes_of rfl rfl rfl rfl) (pf_cons (pf_var 0) (pf_nil)) (len_cons (len_nil)))))
def m_posted : List PyData → Res PyData := mDef 1 7 (
 sSeq (sExpr (eCall m_check_belief (eCons (eVar 0) (eNil))))
      (sSeq (sSet 1 (e1 listD (eComp [3, 4, 5] (e1 enumL (eCons (eVarB 0) eNil)) (gUnp (gsCons (gSet 3) (gsCons (gUnp (gsCons (gSet 4) (gsCons (gSet 5) (gsNil)))) (gsNil)))) (eTrue) (e1 tupD (eCons (e2 mulD (eVarB 4) (e1 sumD (eCons (e1 listD (eComp [5, 6] (e1 itL (eSl slT (eVarB 0) (e1 asI (eVarB 3)) (eNone))) (gUnp (gsCons (gSet 5) (gsCons (gSet 6) (gsNil)))) (eTrue) (eVar 6))) eNil))) (eCons (eVar 4) (eNil)))))))
      (sSeq (sSet 2 (e2 ixD (e1 maxTD (eCons (eVarB 1) eNil)) (eC (.int 0))))
      (sSeq (sIf (eTb (e2 eqD (eVarB 2) (eC (.int 0))))
      (sRet (eC .none))
      (sPass))
      (sRet (e1 tupD (eCons (e1 maxTD (eCons (e1 listD (eComp [7, 4] (e1 itL (eVarB 1)) (gUnp (gsCons (gSet 7) (gsCons (gSet 4) (gsNil)))) (eTb (e2 eqD (eVarB 7) (eVarB 2))) (eVar 4))) eNil)) (eCons (eCall m_plain (eCons (eVar 2) (eCons (eCall m_weight_of (eCons (eVar 0) (eNil))) (eNil)))) (eNil)))))))))
theorem sc_posted : FnScope ["belief", "rows", "most", "k", "worth", "_", "more", "income"] ["belief"] (defScope st_posted) := ⟨rfl, rfl, rfl, by decide +kernel, rfl, by decide +kernel, by decide +kernel⟩
theorem ok_posted {w : World} {K : PySem.W.Frag} {mg : Str → Option Value} {base : Heap} (m : M K mg) {fd : FuncData} (F : FnP K "posted" st_posted (He.ga K "posted") fd) : FnOk PP w K mg base (L2.CX PP w) 4 (He.ga K "posted") fd ["belief"] (spOf K mg 1 m_posted) := by
  obtain ⟨fd_check_belief, F_check_belief⟩ := m.fn_check_belief
  have k_check_belief := ok_check_belief (w := w) (base := base) m F_check_belief
  have b_check_belief : Binds K fd_check_belief ["belief"] [] := FunD.bindsN (ps := ["belief"]) F_check_belief fun _ _ _ _ _ _ us hl => match us, hl with | [_], _ => rfl
  obtain ⟨fd_weight_of, F_weight_of⟩ := m.fn_weight_of
  have k_weight_of := ok_weight_of (w := w) (base := base) m F_weight_of
  have b_weight_of : Binds K fd_weight_of ["belief"] [] := FunD.bindsN (ps := ["belief"]) F_weight_of fun _ _ _ _ _ _ us hl => match us, hl with | [_], _ => rfl
  obtain ⟨fd_plain, F_plain⟩ := m.fn_plain
  have k_plain := ok_plain (w := w) (base := base) m F_plain
  have b_plain : Binds K fd_plain ["n", "d"] [] := FunD.bindsN (ps := ["n", "d"]) F_plain fun _ _ _ _ _ _ us hl => match us, hl with | [_, _], _ => rfl
  exact fnD_ok F sc_posted rfl rfl (by decide) fun cdv A outer s H E hr =>
   ps_seq (pq_expr (pf_b (pf_call k_check_belief (hr.mono (by decide)) rfl m.gl_check_belief F_check_belief.kp b_check_belief (takes_of rfl rfl rfl rfl) (pf_cons (pf_var 0) (pf_nil)) (len_cons (len_nil)))))
      (ps_seq (pq_setLc (own := false) (i := 1) (ow := [("k", 3), ("worth", 4), ("_", 5)]) rfl sc_posted.nd rfl rfl (sw_true rfl rfl rfl (by kernel_rfl)) (pf_enumB rfl rfl (m.fr_enumerate) (pf_varB 0)) (blkOk_by (by kernel_rfl)) (fun _ _ _ _ _ => pf_gtup rfl rfl (pf_gcons (pf_gname 3 sc_posted.nd rfl (by first | exact Or.inl rfl | exact Or.inr rfl)) (pf_gcons (pf_gtup rfl rfl (pf_gcons (pf_gname 4 sc_posted.nd rfl (by first | exact Or.inl rfl | exact Or.inr rfl)) (pf_gcons (pf_gname 5 sc_posted.nd rfl (by first | exact Or.inl rfl | exact Or.inr rfl)) (pf_gnil))) (gsCons_len (gsCons_len (gsNil_len)))) (pf_gnil))) (gsCons_len (gsCons_len (gsNil_len)))) (fun _ _ _ _ _ => pf_tyes) (fun _ _ _ _ _ => pf_tup (pf_cons (pf_mul (pf_varB 4) (pf_b (pf_sum rfl (m.fr_sum) (pf_b (pf_n (pf_lc (own := [("_", 5), ("more", 6)]) rfl sc_posted.nd (pf_iB rfl (pf_b (pf_slF rfl (pf_varB 0) (pf_psome (pf_varB 3)) (pf_pnone)))) (blkOk_by (by kernel_rfl)) (fun _ _ _ _ _ => pf_gtup rfl rfl (pf_gcons (pf_gname 5 sc_posted.nd rfl (by first | exact Or.inl rfl | exact Or.inr rfl)) (pf_gcons (pf_gname 6 sc_posted.nd rfl (by first | exact Or.inl rfl | exact Or.inr rfl)) (pf_gnil))) (gsCons_len (gsCons_len (gsNil_len)))) (fun _ _ _ _ _ => pf_tyes) (fun _ _ _ _ _ => pf_var 6))))))) (pf_cons (pf_var 4) (pf_nil))) (by decide) (len_cons (len_cons (len_nil)))))
      (ps_seq (pq_set (i := 2) sc_posted.nd rfl (by first | exact Or.inl rfl | exact Or.inr rfl) (pf_sub1 rfl (pf_b (pf_maxT rfl (u66 hr) (m.fr_max) (pf_varB 1))) (pf_b (pf_int))))
      (ps_seq (pq_if (pf_cmpT (cm_eq rfl (u64 hr)) (pf_varB 2) (pf_b (pf_int)))
      (ps_1 (pq_ret (pf_non)))
      (ps_nil))
      (ps_1 (pq_ret (pf_tup (pf_cons (pf_maxT rfl (u66 hr) (m.fr_max) (pf_b (pf_n (pf_lc (own := [("income", 7), ("worth", 4)]) rfl sc_posted.nd (pf_iB rfl (pf_varB 1)) (blkOk_by (by kernel_rfl)) (fun _ _ _ _ _ => pf_gtup rfl rfl (pf_gcons (pf_gname 7 sc_posted.nd rfl (by first | exact Or.inl rfl | exact Or.inr rfl)) (pf_gcons (pf_gname 4 sc_posted.nd rfl (by first | exact Or.inl rfl | exact Or.inr rfl)) (pf_gnil))) (gsCons_len (gsCons_len (gsNil_len)))) (fun _ _ _ _ _ => pf_tone (pf_cmpT (cm_eq rfl (u64 hr)) (pf_varB 7) (pf_varB 2))) (fun _ _ _ _ _ => pf_var 4))))) (pf_cons (pf_call k_plain (hr.mono (by decide)) rfl m.gl_plain F_plain.kp b_plain (takes_of rfl rfl rfl rfl) (pf_cons (pf_var 2) (pf_cons (pf_call k_weight_of (hr.mono (by decide)) rfl m.gl_weight_of F_weight_of.kp b_weight_of (takes_of rfl rfl rfl rfl) (pf_cons (pf_var 0) (pf_nil)) (len_cons (len_nil))) (pf_nil))) (len_cons (len_cons (len_nil)))) (pf_nil))) (by decide) (len_cons (len_cons (len_nil)))))))))
def m__law_draws : List PyData → Res PyData := mDef 1 5 (
 sSeq (sSetN 1 (eNil))
      (sSeq (sFor (e1 rg1 (eCons (e1 min2D (eCons (eC (.int 63)) (eCons (e1 lenD (eCons (eVarB 0) eNil)) eNil))) (eNil))) (gSet 2)
      (sSeq (sSet 3 (e1 absD (eCons (e2 ixD (eVarB 0) (eVarB 2)) eNil)))
      (sIf (eTb (e2 geD (eVarB 3) (e2 powD (eC (.int 10)) (eC (.int 18)))))
      (sFor (e1 rg1 (eCons (eC (.int 60)) (eNil))) (gSet 4)
      (sIf (eTb (e2 gtD (eVarB 3) (eC (.int 0))))
      (sSeq (sApp 1 (e2 modD (e1 intD (eCons (eVarB 3) eNil)) (eC (.int 65536))))
      (sSet 3 (e2 divD (eVarB 3) (eC (.int 65536)))))
      (sPass)))
      (sSeq (sSet 5 (e2 modD (e1 intD (eCons (e2 addD (e2 mulD (eVarB 3) (eC (.int 48271))) (e2 mulD (e2 addD (eVarB 2) (eC (.int 1))) (eC (.int 69621)))) eNil)) (eC (.int 2147483647))))
      (sSeq (sSet 5 (e2 modD (e1 intD (eCons (e2 addD (e2 addD (e2 mulD (eVarB 5) (eC (.int 16807))) (e2 mulD (eC (.int 11)) (eVarB 2))) (eC (.int 5))) eNil)) (eC (.int 2147483629))))
      (sSeq (sApp 1 (e2 modD (e1 intD (eCons (eVarB 5) eNil)) (eC (.int 65536))))
      (sApp 1 (e2 modD (e1 intD (eCons (e2 divD (eVarB 5) (eC (.int 65536))) eNil)) (eC (.int 32768))))))))))
      (sFrz [1] (sRet (eVar 1)))))
theorem sc__law_draws : FnScope ["script", "draws", "k", "rest", "turn", "stirred"] ["script"] (defScope st__law_draws) := ⟨rfl, rfl, rfl, by decide +kernel, rfl, by decide +kernel, by decide +kernel⟩
theorem ok__law_draws {w : World} {K : PySem.W.Frag} {mg : Str → Option Value} {base : Heap} (m : M K mg) {fd : FuncData} (F : FnP K "_law_draws" st__law_draws (He.ga K "_law_draws") fd) : FnOk PP w K mg base (L2.CX PP w) 1 (He.ga K "_law_draws") fd ["script"] (spOf K mg 1 m__law_draws) := by
  exact fnD_ok F sc__law_draws rfl rfl (by decide) fun cdv A outer s H E hr =>
   ps_seq (pq_setN (i := 1) sc__law_draws.nd rfl (by first | exact Or.inl rfl | exact Or.inr rfl) (pf_lst (pf_nil) (by decide) (len_nil)))
      (ps_seq (pq_for (passes_of rfl) rfl (pf_range1 rfl (m.fr_range) (pf_consB (pf_b (pf_min2 rfl (m.fr_min) (pf_b (pf_int)) (pf_b (pf_len (m.fr_len) (pf_varB 0))))) (pf_nilB))) (pf_gname 2 sc__law_draws.nd rfl (by first | exact Or.inl rfl | exact Or.inr rfl))
      (ps_seq (pq_set (i := 3) sc__law_draws.nd rfl (by first | exact Or.inl rfl | exact Or.inr rfl) (pf_abs (m.fr_abs) (pf_b (pf_sub1 rfl (pf_varB 0) (pf_varB 2)))))
      (ps_1 (pq_if (pf_cmpT cm_ge (pf_varB 3) (pf_b (pf_pow (pf_b (pf_int)) (pf_b (pf_int)))))
      (ps_1 (pq_for (passes_of rfl) rfl (pf_range1 rfl (m.fr_range) (pf_consB (pf_b (pf_int)) (pf_nilB))) (pf_gname 4 sc__law_draws.nd rfl (by first | exact Or.inl rfl | exact Or.inr rfl))
      (ps_1 (pq_if (pf_cmpT cm_gt (pf_varB 3) (pf_b (pf_int)))
      (ps_seq (pq_app (i := 1) rfl (by first | exact Or.inl rfl | exact Or.inr (Or.inl rfl) | exact Or.inr (Or.inr rfl)) (pf_mod (pf_b (pf_int1 (m.fr_int) (pf_varB 3))) (pf_b (pf_int))) (fun ho ha => pe_bm PySem.F.plainAttrs_list PySem.F.slot_list_append PySem.F.type_list_append mt_append ho ha))
      (ps_1 (pq_set (i := 3) sc__law_draws.nd rfl (by first | exact Or.inl rfl | exact Or.inr rfl) (pf_div (pf_varB 3) (pf_b (pf_int))))))
      (ps_nil)))))
      (ps_seq (pq_set (i := 5) sc__law_draws.nd rfl (by first | exact Or.inl rfl | exact Or.inr rfl) (pf_mod (pf_b (pf_int1 (m.fr_int) (pf_b (pf_add rfl (pf_b (pf_mul (pf_varB 3) (pf_b (pf_int)))) (pf_b (pf_mul (pf_b (pf_add rfl (pf_varB 2) (pf_b (pf_int)))) (pf_b (pf_int)))))))) (pf_b (pf_int))))
      (ps_seq (pq_set (i := 5) sc__law_draws.nd rfl (by first | exact Or.inl rfl | exact Or.inr rfl) (pf_mod (pf_b (pf_int1 (m.fr_int) (pf_b (pf_add rfl (pf_b (pf_add rfl (pf_b (pf_mul (pf_varB 5) (pf_b (pf_int)))) (pf_b (pf_mul (pf_b (pf_int)) (pf_varB 2))))) (pf_b (pf_int)))))) (pf_b (pf_int))))
      (ps_seq (pq_app (i := 1) rfl (by first | exact Or.inl rfl | exact Or.inr (Or.inl rfl) | exact Or.inr (Or.inr rfl)) (pf_mod (pf_b (pf_int1 (m.fr_int) (pf_varB 5))) (pf_b (pf_int))) (fun ho ha => pe_bm PySem.F.plainAttrs_list PySem.F.slot_list_append PySem.F.type_list_append mt_append ho ha))
      (ps_1 (pq_app (i := 1) rfl (by first | exact Or.inl rfl | exact Or.inr (Or.inl rfl) | exact Or.inr (Or.inr rfl)) (pf_mod (pf_b (pf_int1 (m.fr_int) (pf_b (pf_div (pf_varB 5) (pf_b (pf_int)))))) (pf_b (pf_int))) (fun ho ha => pe_bm PySem.F.plainAttrs_list PySem.F.slot_list_append PySem.F.type_list_append mt_append ho ha))))))))))
      (ps_1 (pq_frz [1] (pq_ret (pf_var 1)))))
def m__law_mix : List PyData → Res PyData := mDef 3 1 (
 sSeq (sSet 3 (eC (.int 0)))
      (sSeq (sIf (eTb (e2 gtD (e1 lenD (eCons (eVarB 0) eNil)) (eC (.int 0))))
      (sSet 3 (e2 ixD (eVarB 0) (e2 modD (e1 intD (eCons (eVarB 1) eNil)) (e1 lenD (eCons (eVarB 0) eNil)))))
      (sPass))
      (sSeq (sIf (eTb (e2 ltD (eVarB 1) (e1 lenD (eCons (eVarB 0) eNil))))
      (sRet (e2 modD (e1 intD (eCons (eVarB 3) eNil)) (eVarB 2)))
      (sPass))
      (sRet (e2 modD (e1 intD (eCons (e2 divD (e1 intD (eCons (e2 addD (e2 mulD (eVarB 3) (eC (.int 7919))) (e2 mulD (eVarB 1) (eC (.int 104729)))) eNil)) (eC (.int 3))) eNil)) (eVarB 2))))))
theorem sc__law_mix : FnScope ["draws", "k", "many", "cell"] ["draws", "k", "many"] (defScope st__law_mix) := ⟨rfl, rfl, rfl, by decide +kernel, rfl, by decide +kernel, by decide +kernel⟩
theorem ok__law_mix {w : World} {K : PySem.W.Frag} {mg : Str → Option Value} {base : Heap} (m : M K mg) {fd : FuncData} (F : FnP K "_law_mix" st__law_mix (He.ga K "_law_mix") fd) : FnOk PP w K mg base (L2.CX PP w) 1 (He.ga K "_law_mix") fd ["draws", "k", "many"] (spOf K mg 3 m__law_mix) := by
  exact fnD_ok F sc__law_mix rfl rfl (by decide) fun cdv A outer s H E hr =>
   ps_seq (pq_set (i := 3) sc__law_mix.nd rfl (by first | exact Or.inl rfl | exact Or.inr rfl) (pf_int))
      (ps_seq (pq_if (pf_cmpT cm_gt (pf_b (pf_len (m.fr_len) (pf_varB 0))) (pf_b (pf_int)))
      (ps_1 (pq_set (i := 3) sc__law_mix.nd rfl (by first | exact Or.inl rfl | exact Or.inr rfl) (pf_sub1 rfl (pf_varB 0) (pf_b (pf_mod (pf_b (pf_int1 (m.fr_int) (pf_varB 1))) (pf_b (pf_len (m.fr_len) (pf_varB 0))))))))
      (ps_nil))
      (ps_seq (pq_if (pf_cmpT cm_lt (pf_varB 1) (pf_b (pf_len (m.fr_len) (pf_varB 0))))
      (ps_1 (pq_ret (pf_mod (pf_b (pf_int1 (m.fr_int) (pf_varB 3))) (pf_varB 2))))
      (ps_nil))
      (ps_1 (pq_ret (pf_mod (pf_b (pf_int1 (m.fr_int) (pf_b (pf_div (pf_b (pf_int1 (m.fr_int) (pf_b (pf_add rfl (pf_b (pf_mul (pf_varB 3) (pf_b (pf_int)))) (pf_b (pf_mul (pf_varB 1) (pf_b (pf_int)))))))) (pf_b (pf_int)))))) (pf_varB 2))))))
def m__law_common : List PyData → Res PyData := mDef 2 3 (
 sSeq (sParM [2, 3] (mVal (e1 absD (eCons (eVarB 0) eNil)) (mVal (e1 absD (eCons (eVarB 1) eNil)) (mNil))))
      (sSeq (sFor (e1 rg1 (eCons (eC (.int 400)) (eNil))) (gSet 4)
      (sIf (eTb (e2 gtD (eVarB 3) (eC (.int 0))))
      (sParM [2, 3] (mVal (eVar 3) (mVal (e2 modD (e1 intD (eCons (eVarB 2) eNil)) (eVarB 3)) (mNil))))
      (sPass)))
      (sRet (e1 max2D (eCons (eC (.int 1)) (eCons (eVarB 2) eNil))))))
theorem sc__law_common : FnScope ["a", "b", "one", "two", "turn"] ["a", "b"] (defScope st__law_common) := ⟨rfl, rfl, rfl, by decide +kernel, rfl, by decide +kernel, by decide +kernel⟩
theorem ok__law_common {w : World} {K : PySem.W.Frag} {mg : Str → Option Value} {base : Heap} (m : M K mg) {fd : FuncData} (F : FnP K "_law_common" st__law_common (He.ga K "_law_common") fd) : FnOk PP w K mg base (L2.CX PP w) 1 (He.ga K "_law_common") fd ["a", "b"] (spOf K mg 2 m__law_common) := by
  exact fnD_ok F sc__law_common rfl rfl (by decide) fun cdv A outer s H E hr =>
   ps_seq (pq_parM (i := 2) (j := 3) rfl sc__law_common.nd rfl rfl (by decide) rfl rfl (pf_mval (pf_abs (m.fr_abs) (pf_varB 0)) (pf_mval (pf_abs (m.fr_abs) (pf_varB 1)) (pf_mnil))))
      (ps_seq (pq_for (passes_of rfl) rfl (pf_range1 rfl (m.fr_range) (pf_consB (pf_b (pf_int)) (pf_nilB))) (pf_gname 4 sc__law_common.nd rfl (by first | exact Or.inl rfl | exact Or.inr rfl))
      (ps_1 (pq_if (pf_cmpT cm_gt (pf_varB 3) (pf_b (pf_int)))
      (ps_1 (pq_parM (i := 2) (j := 3) rfl sc__law_common.nd rfl rfl (by decide) rfl rfl (pf_mval (pf_var 3) (pf_mval (pf_mod (pf_b (pf_int1 (m.fr_int) (pf_varB 2))) (pf_varB 3)) (pf_mnil)))))
      (ps_nil))))
      (ps_1 (pq_ret (pf_max2 rfl (m.fr_max) (pf_b (pf_int)) (pf_varB 2)))))
def m__law_low : List PyData → Res PyData := mDef 2 1 (
 sSeq (sSet 2 (e2 mulD (eCall m__law_common (eCons (eVar 0) (eCons (eVar 1) (eNil)))) (e2 ixD (e1 listD (eCons (eC (.int 1)) (eCons (e1 negD (eC (.int 1))) (eNil)))) (e1 intD (eCons (e2 ltD (eVarB 1) (eC (.int 0))) eNil)))))
      (sRet (e1 tupD (eCons (e2 divD (eVarB 0) (eVarB 2)) (eCons (e2 divD (eVarB 1) (eVarB 2)) (eNil))))))
theorem sc__law_low : FnScope ["n", "d", "common_v"] ["n", "d"] (defScope st__law_low) := ⟨rfl, rfl, rfl, by decide +kernel, rfl, by decide +kernel, by decide +kernel⟩
theorem ok__law_low {w : World} {K : PySem.W.Frag} {mg : Str → Option Value} {base : Heap} (m : M K mg) {fd : FuncData} (F : FnP K "_law_low" st__law_low (He.ga K "_law_low") fd) : FnOk PP w K mg base (L2.CX PP w) 2 (He.ga K "_law_low") fd ["n", "d"] (spOf K mg 2 m__law_low) := by
  obtain ⟨fd__law_common, F__law_common⟩ := m.fn__law_common
  have k__law_common := ok__law_common (w := w) (base := base) m F__law_common
  have b__law_common : Binds K fd__law_common ["a", "b"] [] := FunD.bindsN (ps := ["a", "b"]) F__law_common fun _ _ _ _ _ _ us hl => match us, hl with | [_, _], _ => rfl
  exact fnD_ok F sc__law_low rfl rfl (by decide) fun cdv A outer s H E hr =>
   ps_seq (pq_set (i := 2) sc__law_low.nd rfl (by first | exact Or.inl rfl | exact Or.inr rfl) (pf_mul (pf_b (pf_call k__law_common (hr.mono (by decide)) rfl m.gl__law_common F__law_common.kp b__law_common (takes_of rfl rfl rfl rfl) (pf_cons (pf_var 0) (pf_cons (pf_var 1) (pf_nil))) (len_cons (len_cons (len_nil))))) (pf_b (pf_sub1 rfl (pf_b (pf_n (pf_lst (pf_cons (pf_int) (pf_cons (pf_neg (pf_b (pf_int))) (pf_nil))) (by decide) (len_cons (len_cons (len_nil)))))) (pf_b (pf_int1 (m.fr_int) (pf_b (pf_cmpV cm_lt (pf_varB 1) (pf_b (pf_int))))))))))
      (ps_1 (pq_ret (pf_tup (pf_cons (pf_div (pf_varB 0) (pf_varB 2)) (pf_cons (pf_div (pf_varB 1) (pf_varB 2)) (pf_nil))) (by decide) (len_cons (len_cons (len_nil))))))
def m__law_add : List PyData → Res PyData := mDef 2 0 (
 sRet (eCall m__law_low (eCons (e2 addD (e2 mulD (e2 ixD (eVarB 0) (eC (.int 0))) (e2 ixD (eVarB 1) (eC (.int 1)))) (e2 mulD (e2 ixD (eVarB 1) (eC (.int 0))) (e2 ixD (eVarB 0) (eC (.int 1))))) (eCons (e2 mulD (e2 ixD (eVarB 0) (eC (.int 1))) (e2 ixD (eVarB 1) (eC (.int 1)))) (eNil)))))
theorem sc__law_add : FnScope ["one", "two"] ["one", "two"] (defScope st__law_add) := ⟨rfl, rfl, rfl, by decide +kernel, rfl, by decide +kernel, by decide +kernel⟩
theorem ok__law_add {w : World} {K : PySem.W.Frag} {mg : Str → Option Value} {base : Heap} (m : M K mg) {fd : FuncData} (F : FnP K "_law_add" st__law_add (He.ga K "_law_add") fd) : FnOk PP w K mg base (L2.CX PP w) 3 (He.ga K "_law_add") fd ["one", "two"] (spOf K mg 2 m__law_add) := by
  obtain ⟨fd__law_low, F__law_low⟩ := m.fn__law_low
  have k__law_low := ok__law_low (w := w) (base := base) m F__law_low
  have b__law_low : Binds K fd__law_low ["n", "d"] [] := FunD.bindsN (ps := ["n", "d"]) F__law_low fun _ _ _ _ _ _ us hl => match us, hl with | [_, _], _ => rfl
  exact fnD_ok F sc__law_add rfl rfl (by decide) fun cdv A outer s H E hr =>
   ps_1 (pq_ret (pf_call k__law_low (hr.mono (by decide)) rfl m.gl__law_low F__law_low.kp b__law_low (takes_of rfl rfl rfl rfl) (pf_cons (pf_add rfl (pf_b (pf_mul (pf_b (pf_sub1 rfl (pf_varB 0) (pf_b (pf_int)))) (pf_b (pf_sub1 rfl (pf_varB 1) (pf_b (pf_int)))))) (pf_b (pf_mul (pf_b (pf_sub1 rfl (pf_varB 1) (pf_b (pf_int)))) (pf_b (pf_sub1 rfl (pf_varB 0) (pf_b (pf_int))))))) (pf_cons (pf_mul (pf_b (pf_sub1 rfl (pf_varB 0) (pf_b (pf_int)))) (pf_b (pf_sub1 rfl (pf_varB 1) (pf_b (pf_int))))) (pf_nil))) (len_cons (len_cons (len_nil)))))
def m__law_times : List PyData → Res PyData := mDef 2 0 (
 sRet (eCall m__law_low (eCons (e2 mulD (e2 ixD (eVarB 0) (eC (.int 0))) (e2 ixD (eVarB 1) (eC (.int 0)))) (eCons (e2 mulD (e2 ixD (eVarB 0) (eC (.int 1))) (e2 ixD (eVarB 1) (eC (.int 1)))) (eNil)))))
theorem sc__law_times : FnScope ["one", "two"] ["one", "two"] (defScope st__law_times) := ⟨rfl, rfl, rfl, by decide +kernel, rfl, by decide +kernel, by decide +kernel⟩
theorem ok__law_times {w : World} {K : PySem.W.Frag} {mg : Str → Option Value} {base : Heap} (m : M K mg) {fd : FuncData} (F : FnP K "_law_times" st__law_times (He.ga K "_law_times") fd) : FnOk PP w K mg base (L2.CX PP w) 3 (He.ga K "_law_times") fd ["one", "two"] (spOf K mg 2 m__law_times) := by
  obtain ⟨fd__law_low, F__law_low⟩ := m.fn__law_low
  have k__law_low := ok__law_low (w := w) (base := base) m F__law_low
  have b__law_low : Binds K fd__law_low ["n", "d"] [] := FunD.bindsN (ps := ["n", "d"]) F__law_low fun _ _ _ _ _ _ us hl => match us, hl with | [_, _], _ => rfl
  exact fnD_ok F sc__law_times rfl rfl (by decide) fun cdv A outer s H E hr =>
   ps_1 (pq_ret (pf_call k__law_low (hr.mono (by decide)) rfl m.gl__law_low F__law_low.kp b__law_low (takes_of rfl rfl rfl rfl) (pf_cons (pf_mul (pf_b (pf_sub1 rfl (pf_varB 0) (pf_b (pf_int)))) (pf_b (pf_sub1 rfl (pf_varB 1) (pf_b (pf_int))))) (pf_cons (pf_mul (pf_b (pf_sub1 rfl (pf_varB 0) (pf_b (pf_int)))) (pf_b (pf_sub1 rfl (pf_varB 1) (pf_b (pf_int))))) (pf_nil))) (len_cons (len_cons (len_nil)))))
def m__law_sum : List PyData → Res PyData := mDef 1 2 (
 sSeq (sSet 1 (e1 tupD (eCons (eC (.int 0)) (eCons (eC (.int 1)) (eNil)))))
      (sSeq (sFor (e1 itL (eVar 0)) (gSet 2)
      (sSet 1 (eCall m__law_add (eCons (eVar 1) (eCons (eVar 2) (eNil))))))
      (sRet (eVar 1))))
theorem sc__law_sum : FnScope ["rows", "found", "one"] ["rows"] (defScope st__law_sum) := ⟨rfl, rfl, rfl, by decide +kernel, rfl, by decide +kernel, by decide +kernel⟩
theorem ok__law_sum {w : World} {K : PySem.W.Frag} {mg : Str → Option Value} {base : Heap} (m : M K mg) {fd : FuncData} (F : FnP K "_law_sum" st__law_sum (He.ga K "_law_sum") fd) : FnOk PP w K mg base (L2.CX PP w) 4 (He.ga K "_law_sum") fd ["rows"] (spOf K mg 1 m__law_sum) := by
  obtain ⟨fd__law_add, F__law_add⟩ := m.fn__law_add
  have k__law_add := ok__law_add (w := w) (base := base) m F__law_add
  have b__law_add : Binds K fd__law_add ["one", "two"] [] := FunD.bindsN (ps := ["one", "two"]) F__law_add fun _ _ _ _ _ _ us hl => match us, hl with | [_, _], _ => rfl
  exact fnD_ok F sc__law_sum rfl rfl (by decide) fun cdv A outer s H E hr =>
   ps_seq (pq_set (i := 1) sc__law_sum.nd rfl (by first | exact Or.inl rfl | exact Or.inr rfl) (pf_tup (pf_cons (pf_int) (pf_cons (pf_int) (pf_nil))) (by decide) (len_cons (len_cons (len_nil)))))
      (ps_seq (pq_for (passes_of rfl) rfl (pf_iF rfl (pf_var 0)) (pf_gname 2 sc__law_sum.nd rfl (by first | exact Or.inl rfl | exact Or.inr rfl))
      (ps_1 (pq_set (i := 1) sc__law_sum.nd rfl (by first | exact Or.inl rfl | exact Or.inr rfl) (pf_call k__law_add (hr.mono (by decide)) rfl m.gl__law_add F__law_add.kp b__law_add (takes_of rfl rfl rfl rfl) (pf_cons (pf_var 1) (pf_cons (pf_var 2) (pf_nil))) (len_cons (len_cons (len_nil)))))))
      (ps_1 (pq_ret (pf_var 1))))
def m__law_belief : List PyData → Res PyData := mDef 2 3 (
 sSeq (sSet 2 (e1 listD (e1 ssetL (e1 listD (eComp [4] (e1 rg1 (eCons (e2 addD (eC (.int 1)) (eCall m__law_mix (eCons (eVar 0) (eCons (e2 addD (eVarB 1) (eC (.int 6))) (eCons (eC (.int 6)) (eNil)))))) (eNil))) (gSet 4) (eTrue) (eCall m__law_mix (eCons (eVar 0) (eCons (e2 addD (eVarB 1) (eVarB 4)) (eCons (e2 ixD (e1 listD (eCons (eC (.int 12)) (eCons (eC (.int 1001)) (eNil)))) (eCall m__law_mix (eCons (eVar 0) (eCons (e2 addD (eVarB 1) (eC (.int 7))) (eCons (eC (.int 2)) (eNil)))))) (eNil))))))))))
      (sSeq (sSet 3 (eCall m__law_mix (eCons (eVar 0) (eCons (e2 addD (eVarB 1) (eC (.int 8))) (eCons (eC (.int 4)) (eNil))))))
      (sRet (e1 listD (eComp [4] (e1 rg1 (eCons (e1 lenD (eCons (eVarB 2) eNil)) (eNil))) (gSet 4) (eTrue) (e1 tupD (eCons (e2 ixD (eVarB 2) (eVarB 4)) (eCons (e2 ixD (e1 listD (eCons (e2 addD (eC (.int 1)) (eCall m__law_mix (eCons (eVar 0) (eCons (e2 addD (e2 addD (eVarB 1) (eC (.int 10))) (eVarB 4)) (eCons (eC (.int 100)) (eNil)))))) (eCons (eC (.int 7)) (eCons (e2 addD (eC (.int 1)) (e2 mulD (eC (.int 9)) (eVarB 4))) (eCons (e2 addD (e2 mulD (eC (.int 100)) (e1 intD (eCons (e2 eqD (eVarB 4) (eC (.int 0))) eNil))) (e2 mulD (eC (.int 1)) (e1 intD (eCons (e2 gtD (eVarB 4) (eC (.int 0))) eNil)))) (eNil)))))) (eVarB 3)) (eNil)))))))))
theorem sc__law_belief : FnScope ["draws", "k", "worths", "kind", "t"] ["draws", "k"] (defScope st__law_belief) := ⟨rfl, rfl, rfl, by decide +kernel, rfl, by decide +kernel, by decide +kernel⟩
theorem ok__law_belief {w : World} {K : PySem.W.Frag} {mg : Str → Option Value} {base : Heap} (m : M K mg) {fd : FuncData} (F : FnP K "_law_belief" st__law_belief (He.ga K "_law_belief") fd) : FnOk PP w K mg base (L2.CX PP w) 2 (He.ga K "_law_belief") fd ["draws", "k"] (spOf K mg 2 m__law_belief) := by
  obtain ⟨fd__law_mix, F__law_mix⟩ := m.fn__law_mix
  have k__law_mix := ok__law_mix (w := w) (base := base) m F__law_mix
  have b__law_mix : Binds K fd__law_mix ["draws", "k", "many"] [] := FunD.bindsN (ps := ["draws", "k", "many"]) F__law_mix fun _ _ _ _ _ _ us hl => match us, hl with | [_, _, _], _ => rfl
  exact fnD_ok F sc__law_belief rfl rfl (by decide) fun cdv A outer s H E hr =>
   ps_seq (pq_set (i := 2) sc__law_belief.nd rfl (by first | exact Or.inl rfl | exact Or.inr rfl) (pf_n (pf_sset rfl rfl (m.fr_sorted) rfl (m.fr_set) (pf_b (pf_n (pf_lc (own := [("t", 4)]) rfl sc__law_belief.nd (pf_range1 rfl (m.fr_range) (pf_consB (pf_b (pf_add rfl (pf_b (pf_int)) (pf_b (pf_call k__law_mix (hr.mono (by decide)) rfl m.gl__law_mix F__law_mix.kp b__law_mix (takes_of rfl rfl rfl rfl) (pf_cons (pf_var 0) (pf_cons (pf_add rfl (pf_varB 1) (pf_b (pf_int))) (pf_cons (pf_int) (pf_nil)))) (len_cons (len_cons (len_cons (len_nil)))))))) (pf_nilB))) (blkOk_by (by kernel_rfl)) (fun _ _ _ _ _ => pf_gname 4 sc__law_belief.nd rfl (by first | exact Or.inl rfl | exact Or.inr rfl)) (fun _ _ _ _ _ => pf_tyes) (fun _ _ _ _ _ => pf_call k__law_mix (hr.mono (by decide)) rfl m.gl__law_mix F__law_mix.kp b__law_mix Pf.takes0 (pf_cons (pf_var 0) (pf_cons (pf_add rfl (pf_varB 1) (pf_varB 4)) (pf_cons (pf_sub1 rfl (pf_b (pf_n (pf_lst (pf_cons (pf_int) (pf_cons (pf_int) (pf_nil))) (by decide) (len_cons (len_cons (len_nil)))))) (pf_b (pf_call k__law_mix (hr.mono (by decide)) rfl m.gl__law_mix F__law_mix.kp b__law_mix Pf.takes0 (pf_cons (pf_var 0) (pf_cons (pf_add rfl (pf_varB 1) (pf_b (pf_int))) (pf_cons (pf_int) (pf_nil)))) (len_cons (len_cons (len_cons (len_nil))))))) (pf_nil)))) (len_cons (len_cons (len_cons (len_nil)))))))))))
      (ps_seq (pq_set (i := 3) sc__law_belief.nd rfl (by first | exact Or.inl rfl | exact Or.inr rfl) (pf_call k__law_mix (hr.mono (by decide)) rfl m.gl__law_mix F__law_mix.kp b__law_mix (takes_of rfl rfl rfl rfl) (pf_cons (pf_var 0) (pf_cons (pf_add rfl (pf_varB 1) (pf_b (pf_int))) (pf_cons (pf_int) (pf_nil)))) (len_cons (len_cons (len_cons (len_nil))))))
      (ps_1 (pq_ret (pf_n (pf_lc (own := [("t", 4)]) rfl sc__law_belief.nd (pf_range1 rfl (m.fr_range) (pf_consB (pf_b (pf_len (m.fr_len) (pf_varB 2))) (pf_nilB))) (blkOk_by (by kernel_rfl)) (fun _ _ _ _ _ => pf_gname 4 sc__law_belief.nd rfl (by first | exact Or.inl rfl | exact Or.inr rfl)) (fun _ _ _ _ _ => pf_tyes) (fun _ _ _ _ _ => pf_tup (pf_cons (pf_sub1 rfl (pf_varB 2) (pf_varB 4)) (pf_cons (pf_sub1 rfl (pf_b (pf_n (pf_lst (pf_cons (pf_add rfl (pf_b (pf_int)) (pf_b (pf_call k__law_mix (hr.mono (by decide)) rfl m.gl__law_mix F__law_mix.kp b__law_mix Pf.takes0 (pf_cons (pf_var 0) (pf_cons (pf_add rfl (pf_b (pf_add rfl (pf_varB 1) (pf_b (pf_int)))) (pf_varB 4)) (pf_cons (pf_int) (pf_nil)))) (len_cons (len_cons (len_cons (len_nil))))))) (pf_cons (pf_int) (pf_cons (pf_add rfl (pf_b (pf_int)) (pf_b (pf_mul (pf_b (pf_int)) (pf_varB 4)))) (pf_cons (pf_add rfl (pf_b (pf_mul (pf_b (pf_int)) (pf_b (pf_int1 (m.fr_int) (pf_b (pf_cmpV (cm_eq rfl (u64 hr)) (pf_varB 4) (pf_b (pf_int)))))))) (pf_b (pf_mul (pf_b (pf_int)) (pf_b (pf_int1 (m.fr_int) (pf_b (pf_cmpV cm_gt (pf_varB 4) (pf_b (pf_int))))))))) (pf_nil))))) (by decide) (len_cons (len_cons (len_cons (len_cons (len_nil)))))))) (pf_varB 3)) (pf_nil))) (by decide) (len_cons (len_cons (len_nil)))))))))
def m__law_gains : List PyData → Res PyData := mDef 1 6 (
 sSeq (sSetN 1 (eNil))
      (sSeq (sFor (e1 rg1 (eCons (e1 lenD (eCons (eVarB 0) eNil)) (eNil))) (gSet 2)
      (sSeq (sSet 3 (e1 sumD (eCons (e1 listD (eComp [5, 6] (e1 itL (eSl slT (eVarB 0) (e1 asI (e2 addD (eVarB 2) (eC (.int 1)))) (eNone))) (gUnp (gsCons (gSet 5) (gsCons (gSet 6) (gsNil)))) (eTrue) (eVar 6))) eNil)))
      (sSeq (sSet 4 (e2 subD (e2 ixD (e2 ixD (e2 addD (eVarB 0) (e1 listD (eCons (e2 ixD (eVarB 0) (e1 negD (eC (.int 1)))) (eNil)))) (e2 addD (eVarB 2) (eC (.int 1)))) (eC (.int 0))) (e2 ixD (e2 ixD (eVarB 0) (eVarB 2)) (eC (.int 0)))))
      (sApp 1 (eCall m__law_low (eCons (e2 subD (e2 mulD (e2 ixD (e2 ixD (eVarB 0) (eVarB 2)) (eC (.int 0))) (e2 ixD (e2 ixD (eVarB 0) (eVarB 2)) (eC (.int 1)))) (e2 mulD (eVarB 4) (eVarB 3))) (eCons (e2 ixD (e2 ixD (eVarB 0) (eVarB 2)) (eC (.int 1))) (eNil))))))))
      (sFrz [1] (sRet (eVar 1)))))
theorem sc__law_gains : FnScope ["belief", "found", "t", "above", "step", "worth", "weight"] ["belief"] (defScope st__law_gains) := ⟨rfl, rfl, rfl, by decide +kernel, rfl, by decide +kernel, by decide +kernel⟩
theorem ok__law_gains {w : World} {K : PySem.W.Frag} {mg : Str → Option Value} {base : Heap} (m : M K mg) {fd : FuncData} (F : FnP K "_law_gains" st__law_gains (He.ga K "_law_gains") fd) : FnOk PP w K mg base (L2.CX PP w) 3 (He.ga K "_law_gains") fd ["belief"] (spOf K mg 1 m__law_gains) := by
  obtain ⟨fd__law_low, F__law_low⟩ := m.fn__law_low
  have k__law_low := ok__law_low (w := w) (base := base) m F__law_low
  have b__law_low : Binds K fd__law_low ["n", "d"] [] := FunD.bindsN (ps := ["n", "d"]) F__law_low fun _ _ _ _ _ _ us hl => match us, hl with | [_, _], _ => rfl
  exact fnD_ok F sc__law_gains rfl rfl (by decide) fun cdv A outer s H E hr =>
   ps_seq (pq_setN (i := 1) sc__law_gains.nd rfl (by first | exact Or.inl rfl | exact Or.inr rfl) (pf_lst (pf_nil) (by decide) (len_nil)))
      (ps_seq (pq_for (passes_of rfl) rfl (pf_range1 rfl (m.fr_range) (pf_consB (pf_b (pf_len (m.fr_len) (pf_varB 0))) (pf_nilB))) (pf_gname 2 sc__law_gains.nd rfl (by first | exact Or.inl rfl | exact Or.inr rfl))
      (ps_seq (pq_set (i := 3) sc__law_gains.nd rfl (by first | exact Or.inl rfl | exact Or.inr rfl) (pf_sum rfl (m.fr_sum) (pf_b (pf_n (pf_lc (own := [("worth", 5), ("weight", 6)]) rfl sc__law_gains.nd (pf_iB rfl (pf_b (pf_slF rfl (pf_varB 0) (pf_psome (pf_b (pf_add rfl (pf_varB 2) (pf_b (pf_int))))) (pf_pnone)))) (blkOk_by (by kernel_rfl)) (fun _ _ _ _ _ => pf_gtup rfl rfl (pf_gcons (pf_gname 5 sc__law_gains.nd rfl (by first | exact Or.inl rfl | exact Or.inr rfl)) (pf_gcons (pf_gname 6 sc__law_gains.nd rfl (by first | exact Or.inl rfl | exact Or.inr rfl)) (pf_gnil))) (gsCons_len (gsCons_len (gsNil_len)))) (fun _ _ _ _ _ => pf_tyes) (fun _ _ _ _ _ => pf_var 6))))))
      (ps_seq (pq_set (i := 4) sc__law_gains.nd rfl (by first | exact Or.inl rfl | exact Or.inr rfl) (pf_sub (pf_b (pf_sub1 rfl (pf_b (pf_sub1 rfl (pf_b (pf_add rfl (pf_varB 0) (pf_b (pf_n (pf_lst (pf_cons (pf_sub1 rfl (pf_varB 0) (pf_b (pf_neg (pf_b (pf_int))))) (pf_nil)) (by decide) (len_cons (len_nil))))))) (pf_b (pf_add rfl (pf_varB 2) (pf_b (pf_int)))))) (pf_b (pf_int)))) (pf_b (pf_sub1 rfl (pf_b (pf_sub1 rfl (pf_varB 0) (pf_varB 2))) (pf_b (pf_int))))))
      (ps_1 (pq_app (i := 1) rfl (by first | exact Or.inl rfl | exact Or.inr (Or.inl rfl) | exact Or.inr (Or.inr rfl)) (pf_call k__law_low (hr.mono (by decide)) rfl m.gl__law_low F__law_low.kp b__law_low (takes_of rfl rfl rfl rfl) (pf_cons (pf_sub (pf_b (pf_mul (pf_b (pf_sub1 rfl (pf_b (pf_sub1 rfl (pf_varB 0) (pf_varB 2))) (pf_b (pf_int)))) (pf_b (pf_sub1 rfl (pf_b (pf_sub1 rfl (pf_varB 0) (pf_varB 2))) (pf_b (pf_int)))))) (pf_b (pf_mul (pf_varB 4) (pf_varB 3)))) (pf_cons (pf_sub1 rfl (pf_b (pf_sub1 rfl (pf_varB 0) (pf_varB 2))) (pf_b (pf_int))) (pf_nil))) (len_cons (len_cons (len_nil)))) (fun ho ha => pe_bm PySem.F.plainAttrs_list PySem.F.slot_list_append PySem.F.type_list_append mt_append ho ha))))))
      (ps_1 (pq_frz [1] (pq_ret (pf_var 1)))))
def m__law_mean : List PyData → Res PyData := mDef 4 3 (
 sSeq (sSet 4 (e1 listD (eComp [6] (e1 rg2 (eCons (eVarB 2) (eCons (eVarB 3) (eNil)))) (gSet 6) (eTrue) (eCall m__law_times (eCons (e1 tupD (eCons (e2 ixD (e2 ixD (eVarB 0) (eVarB 6)) (eC (.int 1))) (eCons (eC (.int 1)) (eNil)))) (eCons (e2 ixD (eVarB 1) (eVarB 6)) (eNil)))))))
      (sSeq (sSet 5 (eCall m__law_sum (eCons (eVar 4) (eNil))))
      (sRet (eCall m__law_low (eCons (e2 ixD (eVarB 5) (eC (.int 0))) (eCons (e2 mulD (e2 ixD (eVarB 5) (eC (.int 1))) (e1 sumD (eCons (e1 listD (eComp [6] (e1 rg2 (eCons (eVarB 2) (eCons (eVarB 3) (eNil)))) (gSet 6) (eTrue) (e2 ixD (e2 ixD (eVarB 0) (eVarB 6)) (eC (.int 1))))) eNil))) (eNil)))))))
theorem sc__law_mean : FnScope ["belief", "gains", "first", "behind", "rows", "whole", "t"] ["belief", "gains", "first", "behind"] (defScope st__law_mean) := ⟨rfl, rfl, rfl, by decide +kernel, rfl, by decide +kernel, by decide +kernel⟩
theorem ok__law_mean {w : World} {K : PySem.W.Frag} {mg : Str → Option Value} {base : Heap} (m : M K mg) {fd : FuncData} (F : FnP K "_law_mean" st__law_mean (He.ga K "_law_mean") fd) : FnOk PP w K mg base (L2.CX PP w) 5 (He.ga K "_law_mean") fd ["belief", "gains", "first", "behind"] (spOf K mg 4 m__law_mean) := by
  obtain ⟨fd__law_times, F__law_times⟩ := m.fn__law_times
  have k__law_times := ok__law_times (w := w) (base := base) m F__law_times
  have b__law_times : Binds K fd__law_times ["one", "two"] [] := FunD.bindsN (ps := ["one", "two"]) F__law_times fun _ _ _ _ _ _ us hl => match us, hl with | [_, _], _ => rfl
  obtain ⟨fd__law_sum, F__law_sum⟩ := m.fn__law_sum
  have k__law_sum := ok__law_sum (w := w) (base := base) m F__law_sum
  have b__law_sum : Binds K fd__law_sum ["rows"] [] := FunD.bindsN (ps := ["rows"]) F__law_sum fun _ _ _ _ _ _ us hl => match us, hl with | [_], _ => rfl
  obtain ⟨fd__law_low, F__law_low⟩ := m.fn__law_low
  have k__law_low := ok__law_low (w := w) (base := base) m F__law_low
  have b__law_low : Binds K fd__law_low ["n", "d"] [] := FunD.bindsN (ps := ["n", "d"]) F__law_low fun _ _ _ _ _ _ us hl => match us, hl with | [_, _], _ => rfl
  exact fnD_ok F sc__law_mean rfl rfl (by decide) fun cdv A outer s H E hr =>
   ps_seq (pq_setLc (own := false) (i := 4) (ow := [("t", 6)]) rfl sc__law_mean.nd rfl rfl (sw_true rfl rfl rfl (by kernel_rfl)) (pf_range2 rfl (m.fr_range) (pf_consB (pf_varB 2) (pf_consB (pf_varB 3) (pf_nilB)))) (blkOk_by (by kernel_rfl)) (fun _ _ _ _ _ => pf_gname 6 sc__law_mean.nd rfl (by first | exact Or.inl rfl | exact Or.inr rfl)) (fun _ _ _ _ _ => pf_tyes) (fun _ _ _ _ _ => pf_call k__law_times (hr.mono (by decide)) rfl m.gl__law_times F__law_times.kp b__law_times Pf.takes0 (pf_cons (pf_tup (pf_cons (pf_sub1 rfl (pf_b (pf_sub1 rfl (pf_varB 0) (pf_varB 6))) (pf_b (pf_int))) (pf_cons (pf_int) (pf_nil))) (by decide) (len_cons (len_cons (len_nil)))) (pf_cons (pf_sub1 rfl (pf_varB 1) (pf_varB 6)) (pf_nil))) (len_cons (len_cons (len_nil)))))
      (ps_seq (pq_set (i := 5) sc__law_mean.nd rfl (by first | exact Or.inl rfl | exact Or.inr rfl) (pf_call k__law_sum (hr.mono (by decide)) rfl m.gl__law_sum F__law_sum.kp b__law_sum (takes_of rfl rfl rfl rfl) (pf_cons (pf_var 4) (pf_nil)) (len_cons (len_nil))))
      (ps_1 (pq_ret (pf_call k__law_low (hr.mono (by decide)) rfl m.gl__law_low F__law_low.kp b__law_low (takes_of rfl rfl rfl rfl) (pf_cons (pf_sub1 rfl (pf_varB 5) (pf_b (pf_int))) (pf_cons (pf_mul (pf_b (pf_sub1 rfl (pf_varB 5) (pf_b (pf_int)))) (pf_b (pf_sum rfl (m.fr_sum) (pf_b (pf_n (pf_lc (own := [("t", 6)]) rfl sc__law_mean.nd (pf_range2 rfl (m.fr_range) (pf_consB (pf_varB 2) (pf_consB (pf_varB 3) (pf_nilB)))) (blkOk_by (by kernel_rfl)) (fun _ _ _ _ _ => pf_gname 6 sc__law_mean.nd rfl (by first | exact Or.inl rfl | exact Or.inr rfl)) (fun _ _ _ _ _ => pf_tyes) (fun _ _ _ _ _ => pf_sub1 rfl (pf_b (pf_sub1 rfl (pf_varB 0) (pf_varB 6))) (pf_b (pf_int))))))))) (pf_nil))) (len_cons (len_cons (len_nil)))))))
def m__law_is_less : List PyData → Res PyData := mDef 2 0 (
 sRet (e2 ltD (e2 mulD (e2 ixD (eVarB 0) (eC (.int 0))) (e2 ixD (eVarB 1) (eC (.int 1)))) (e2 mulD (e2 ixD (eVarB 1) (eC (.int 0))) (e2 ixD (eVarB 0) (eC (.int 1))))))
theorem sc__law_is_less : FnScope ["one", "two"] ["one", "two"] (defScope st__law_is_less) := ⟨rfl, rfl, rfl, by decide +kernel, rfl, by decide +kernel, by decide +kernel⟩
theorem ok__law_is_less {w : World} {K : PySem.W.Frag} {mg : Str → Option Value} {base : Heap} (m : M K mg) {fd : FuncData} (F : FnP K "_law_is_less" st__law_is_less (He.ga K "_law_is_less") fd) : FnOk PP w K mg base (L2.CX PP w) 1 (He.ga K "_law_is_less") fd ["one", "two"] (spOf K mg 2 m__law_is_less) := by
  exact fnD_ok F sc__law_is_less rfl rfl (by decide) fun cdv A outer s H E hr =>
   ps_1 (pq_ret (pf_cmpV cm_lt (pf_b (pf_mul (pf_b (pf_sub1 rfl (pf_varB 0) (pf_b (pf_int)))) (pf_b (pf_sub1 rfl (pf_varB 1) (pf_b (pf_int)))))) (pf_b (pf_mul (pf_b (pf_sub1 rfl (pf_varB 1) (pf_b (pf_int)))) (pf_b (pf_sub1 rfl (pf_varB 0) (pf_b (pf_int))))))))
def m__law_greatest : List PyData → Res PyData := mDef 1 2 (
 sSeq (sSet 1 (e2 ixD (eVarB 0) (eC (.int 0))))
      (sSeq (sFor (e1 itL (eVar 0)) (gSet 2)
      (sSet 1 (e2 ixD (e1 listD (eCons (eVar 1) (eCons (eVar 2) (eNil)))) (e1 intD (eCons (eCall m__law_is_less (eCons (eVar 1) (eCons (eVar 2) (eNil)))) eNil)))))
      (sRet (eVar 1))))
theorem sc__law_greatest : FnScope ["some", "found", "one"] ["some"] (defScope st__law_greatest) := ⟨rfl, rfl, rfl, by decide +kernel, rfl, by decide +kernel, by decide +kernel⟩
theorem ok__law_greatest {w : World} {K : PySem.W.Frag} {mg : Str → Option Value} {base : Heap} (m : M K mg) {fd : FuncData} (F : FnP K "_law_greatest" st__law_greatest (He.ga K "_law_greatest") fd) : FnOk PP w K mg base (L2.CX PP w) 2 (He.ga K "_law_greatest") fd ["some"] (spOf K mg 1 m__law_greatest) := by
  obtain ⟨fd__law_is_less, F__law_is_less⟩ := m.fn__law_is_less
  have k__law_is_less := ok__law_is_less (w := w) (base := base) m F__law_is_less
  have b__law_is_less : Binds K fd__law_is_less ["one", "two"] [] := FunD.bindsN (ps := ["one", "two"]) F__law_is_less fun _ _ _ _ _ _ us hl => match us, hl with | [_, _], _ => rfl
  exact fnD_ok F sc__law_greatest rfl rfl (by decide) fun cdv A outer s H E hr =>
   ps_seq (pq_set (i := 1) sc__law_greatest.nd rfl (by first | exact Or.inl rfl | exact Or.inr rfl) (pf_sub1 rfl (pf_varB 0) (pf_b (pf_int))))
      (ps_seq (pq_for (passes_of rfl) rfl (pf_iF rfl (pf_var 0)) (pf_gname 2 sc__law_greatest.nd rfl (by first | exact Or.inl rfl | exact Or.inr rfl))
      (ps_1 (pq_set (i := 1) sc__law_greatest.nd rfl (by first | exact Or.inl rfl | exact Or.inr rfl) (pf_sub1 rfl (pf_b (pf_n (pf_lst (pf_cons (pf_var 1) (pf_cons (pf_var 2) (pf_nil))) (by decide) (len_cons (len_cons (len_nil)))))) (pf_b (pf_int1 (m.fr_int) (pf_b (pf_call k__law_is_less (hr.mono (by decide)) rfl m.gl__law_is_less F__law_is_less.kp b__law_is_less (takes_of rfl rfl rfl rfl) (pf_cons (pf_var 1) (pf_cons (pf_var 2) (pf_nil))) (len_cons (len_cons (len_nil)))))))))))
      (ps_1 (pq_ret (pf_var 1))))
def m__law_least : List PyData → Res PyData := mDef 1 2 (
 sSeq (sSet 1 (e2 ixD (eVarB 0) (eC (.int 0))))
      (sSeq (sFor (e1 itL (eVar 0)) (gSet 2)
      (sSet 1 (e2 ixD (e1 listD (eCons (eVar 1) (eCons (eVar 2) (eNil)))) (e1 intD (eCons (eCall m__law_is_less (eCons (eVar 2) (eCons (eVar 1) (eNil)))) eNil)))))
      (sRet (eVar 1))))
theorem sc__law_least : FnScope ["some", "found", "one"] ["some"] (defScope st__law_least) := ⟨rfl, rfl, rfl, by decide +kernel, rfl, by decide +kernel, by decide +kernel⟩
theorem ok__law_least {w : World} {K : PySem.W.Frag} {mg : Str → Option Value} {base : Heap} (m : M K mg) {fd : FuncData} (F : FnP K "_law_least" st__law_least (He.ga K "_law_least") fd) : FnOk PP w K mg base (L2.CX PP w) 2 (He.ga K "_law_least") fd ["some"] (spOf K mg 1 m__law_least) := by
  obtain ⟨fd__law_is_less, F__law_is_less⟩ := m.fn__law_is_less
  have k__law_is_less := ok__law_is_less (w := w) (base := base) m F__law_is_less
  have b__law_is_less : Binds K fd__law_is_less ["one", "two"] [] := FunD.bindsN (ps := ["one", "two"]) F__law_is_less fun _ _ _ _ _ _ us hl => match us, hl with | [_, _], _ => rfl
  exact fnD_ok F sc__law_least rfl rfl (by decide) fun cdv A outer s H E hr =>
   ps_seq (pq_set (i := 1) sc__law_least.nd rfl (by first | exact Or.inl rfl | exact Or.inr rfl) (pf_sub1 rfl (pf_varB 0) (pf_b (pf_int))))
      (ps_seq (pq_for (passes_of rfl) rfl (pf_iF rfl (pf_var 0)) (pf_gname 2 sc__law_least.nd rfl (by first | exact Or.inl rfl | exact Or.inr rfl))
      (ps_1 (pq_set (i := 1) sc__law_least.nd rfl (by first | exact Or.inl rfl | exact Or.inr rfl) (pf_sub1 rfl (pf_b (pf_n (pf_lst (pf_cons (pf_var 1) (pf_cons (pf_var 2) (pf_nil))) (by decide) (len_cons (len_cons (len_nil)))))) (pf_b (pf_int1 (m.fr_int) (pf_b (pf_call k__law_is_less (hr.mono (by decide)) rfl m.gl__law_is_less F__law_is_less.kp b__law_is_less (takes_of rfl rfl rfl rfl) (pf_cons (pf_var 2) (pf_cons (pf_var 1) (pf_nil))) (len_cons (len_cons (len_nil)))))))))))
      (ps_1 (pq_ret (pf_var 1))))
def m__law_smooth : List PyData → Res PyData := mDef 2 6 (
 sSeq (sParM [2, 3] (mVal (e1 lenD (eCons (eVarB 0) eNil)) (mOwn (eNil) (mNil))))
      (sSeq (sFor (e1 rg1 (eCons (eVarB 2) (eNil))) (gSet 4)
      (sSeq (sSetN 5 (eNil))
      (sSeq (sFor (e1 rg1 (eCons (e2 addD (eVarB 4) (eC (.int 1))) (eNil))) (gSet 6)
      (sApp 5 (eCall m__law_least (eCons (e1 listD (eComp [7] (e1 rg2 (eCons (e2 addD (eVarB 4) (eC (.int 1))) (eCons (e2 addD (eVarB 2) (eC (.int 1))) (eNil)))) (gSet 7) (eTrue) (eCall m__law_mean (eCons (eVar 0) (eCons (eVar 1) (eCons (eVar 6) (eCons (eVar 7) (eNil)))))))) (eNil)))))
      (sFrz [5] (sApp 3 (eCall m__law_greatest (eCons (eVar 5) (eNil))))))))
      (sFrz [3] (sRet (eVar 3)))))
theorem sc__law_smooth : FnScope ["belief", "gains", "many", "found", "t", "rows", "first", "behind"] ["belief", "gains"] (defScope st__law_smooth) := ⟨rfl, rfl, rfl, by decide +kernel, rfl, by decide +kernel, by decide +kernel⟩
theorem ok__law_smooth {w : World} {K : PySem.W.Frag} {mg : Str → Option Value} {base : Heap} (m : M K mg) {fd : FuncData} (F : FnP K "_law_smooth" st__law_smooth (He.ga K "_law_smooth") fd) : FnOk PP w K mg base (L2.CX PP w) 6 (He.ga K "_law_smooth") fd ["belief", "gains"] (spOf K mg 2 m__law_smooth) := by
  obtain ⟨fd__law_mean, F__law_mean⟩ := m.fn__law_mean
  have k__law_mean := ok__law_mean (w := w) (base := base) m F__law_mean
  have b__law_mean : Binds K fd__law_mean ["belief", "gains", "first", "behind"] [] := FunD.bindsN (ps := ["belief", "gains", "first", "behind"]) F__law_mean fun _ _ _ _ _ _ us hl => match us, hl with | [_, _, _, _], _ => rfl
  obtain ⟨fd__law_least, F__law_least⟩ := m.fn__law_least
  have k__law_least := ok__law_least (w := w) (base := base) m F__law_least
  have b__law_least : Binds K fd__law_least ["some"] [] := FunD.bindsN (ps := ["some"]) F__law_least fun _ _ _ _ _ _ us hl => match us, hl with | [_], _ => rfl
  obtain ⟨fd__law_greatest, F__law_greatest⟩ := m.fn__law_greatest
  have k__law_greatest := ok__law_greatest (w := w) (base := base) m F__law_greatest
  have b__law_greatest : Binds K fd__law_greatest ["some"] [] := FunD.bindsN (ps := ["some"]) F__law_greatest fun _ _ _ _ _ _ us hl => match us, hl with | [_], _ => rfl
  exact fnD_ok F sc__law_smooth rfl rfl (by decide) fun cdv A outer s H E hr =>
   ps_seq (pq_parM (i := 2) (j := 3) rfl sc__law_smooth.nd rfl rfl (by decide) rfl rfl (pf_mval (pf_len (m.fr_len) (pf_varB 0)) (pf_mown (pf_lst (pf_nil) (by decide) (len_nil)) (pf_mnil))))
      (ps_seq (pq_for (passes_of rfl) rfl (pf_range1 rfl (m.fr_range) (pf_consB (pf_varB 2) (pf_nilB))) (pf_gname 4 sc__law_smooth.nd rfl (by first | exact Or.inl rfl | exact Or.inr rfl))
      (ps_seq (pq_setN (i := 5) sc__law_smooth.nd rfl (by first | exact Or.inl rfl | exact Or.inr rfl) (pf_lst (pf_nil) (by decide) (len_nil)))
      (ps_seq (pq_for (passes_of rfl) rfl (pf_range1 rfl (m.fr_range) (pf_consB (pf_b (pf_add rfl (pf_varB 4) (pf_b (pf_int)))) (pf_nilB))) (pf_gname 6 sc__law_smooth.nd rfl (by first | exact Or.inl rfl | exact Or.inr rfl))
      (ps_1 (pq_app (i := 5) rfl (by first | exact Or.inl rfl | exact Or.inr (Or.inl rfl) | exact Or.inr (Or.inr rfl)) (pf_call k__law_least (hr.mono (by decide)) rfl m.gl__law_least F__law_least.kp b__law_least (takes_of rfl rfl rfl rfl) (pf_cons (pf_n (pf_lc (own := [("behind", 7)]) rfl sc__law_smooth.nd (pf_range2 rfl (m.fr_range) (pf_consB (pf_b (pf_add rfl (pf_varB 4) (pf_b (pf_int)))) (pf_consB (pf_b (pf_add rfl (pf_varB 2) (pf_b (pf_int)))) (pf_nilB)))) (blkOk_by (by kernel_rfl)) (fun _ _ _ _ _ => pf_gname 7 sc__law_smooth.nd rfl (by first | exact Or.inl rfl | exact Or.inr rfl)) (fun _ _ _ _ _ => pf_tyes) (fun _ _ _ _ _ => pf_call k__law_mean (hr.mono (by decide)) rfl m.gl__law_mean F__law_mean.kp b__law_mean Pf.takes0 (pf_cons (pf_var 0) (pf_cons (pf_var 1) (pf_cons (pf_var 6) (pf_cons (pf_var 7) (pf_nil))))) (len_cons (len_cons (len_cons (len_cons (len_nil)))))))) (pf_nil)) (len_cons (len_nil))) (fun ho ha => pe_bm PySem.F.plainAttrs_list PySem.F.slot_list_append PySem.F.type_list_append mt_append ho ha))))
      (ps_1 (pq_frz [5] (pq_app (i := 3) rfl (by first | exact Or.inl rfl | exact Or.inr (Or.inl rfl) | exact Or.inr (Or.inr rfl)) (pf_call k__law_greatest (hr.mono (by decide)) rfl m.gl__law_greatest F__law_greatest.kp b__law_greatest (takes_of rfl rfl rfl rfl) (pf_cons (pf_var 5) (pf_nil)) (len_cons (len_nil))) (fun ho ha => pe_bm PySem.F.plainAttrs_list PySem.F.slot_list_append PySem.F.type_list_append mt_append ho ha)))))))
      (ps_1 (pq_frz [3] (pq_ret (pf_var 3)))))
def m__law_word : List PyData → Res PyData := mDef 2 1 (
 sSeq (sTryC ["BadWorths"] (sIf (eTb (e2 eqD (eVarB 0) (eC (.int 0))))
      (sExpr (eCall m_gains_of (eCons (eVar 1) (eNil))))
      (sIf (eTb (e2 eqD (eVarB 0) (eC (.int 1))))
      (sExpr (eCall m_smooth_of (eCons (eVar 1) (eNil))))
      (sExpr (eCall m_posted (eCons (eVar 1) (eNil)))))) [("BadWorths", fun k => .int k)])
      (sRet (eC .none)))
theorem sc__law_word : FnScope ["which", "told", "e"] ["which", "told"] (defScope st__law_word) := ⟨rfl, rfl, rfl, by decide +kernel, rfl, by decide +kernel, by decide +kernel⟩
theorem tr__law_word {K : PySem.W.Frag} {mg : Str → Option Value} (m : M K mg) {l : List (Str × (Int → PyData))} (hl : l.map (·.1) = (["BadWorths"] : List Str)) : ∀ c ∈ (["BadWorths"] : List Str), ∀ C, mg c = some (.ref C) → XfC K C ∧ PySem.W.findIn K (.ref C) "at" = some none ∧ ∀ x D, (∃ h, (x, h) ∈ l) → mg x = some (.ref D) → PySem.W.exmOne K (.ref C) (.ref D) = some (decide (c = x)) := by
  intro c hc C hC
  have hx : ∀ x h, (x, h) ∈ l → x ∈ (["BadWorths"] : List Str) := fun x h hm => by rw [← hl]; exact List.mem_map.mpr ⟨_, hm, rfl⟩
  simp only [List.mem_cons, List.not_mem_nil, or_false] at hc hx
  rcases hc with rfl
  · rw [m.gl_BadWorths] at hC
    cases hC
    refine ⟨m.xf_BadWorths, m.ex_BadWorths.noat, fun x D ⟨h, hm⟩ hD => ?_⟩
    rcases hx x h hm with rfl
    · rw [m.gl_BadWorths] at hD
      cases hD
      have := He.exm_ok (m.c.b.2.2 ("BadWorths", "BadWorths", true) (by decide))
      exact this.trans (by decide)
theorem ok__law_word {w : World} {K : PySem.W.Frag} {mg : Str → Option Value} {base : Heap} (m : M K mg) {fd : FuncData} (F : FnP K "_law_word" st__law_word (He.ga K "_law_word") fd) : FnOk PP w K mg base (L2.CX PP w) 6 (He.ga K "_law_word") fd ["which", "told"] (spOf K mg 2 m__law_word) := by
  obtain ⟨fd_gains_of, F_gains_of⟩ := m.fn_gains_of
  have k_gains_of := ok_gains_of (w := w) (base := base) m F_gains_of
  have b_gains_of : Binds K fd_gains_of ["belief"] [] := FunD.bindsN (ps := ["belief"]) F_gains_of fun _ _ _ _ _ _ us hl => match us, hl with | [_], _ => rfl
  obtain ⟨fd_smooth_of, F_smooth_of⟩ := m.fn_smooth_of
  have k_smooth_of := ok_smooth_of (w := w) (base := base) m F_smooth_of
  have b_smooth_of : Binds K fd_smooth_of ["belief"] [] := FunD.bindsN (ps := ["belief"]) F_smooth_of fun _ _ _ _ _ _ us hl => match us, hl with | [_], _ => rfl
  obtain ⟨fd_posted, F_posted⟩ := m.fn_posted
  have k_posted := ok_posted (w := w) (base := base) m F_posted
  have b_posted : Binds K fd_posted ["belief"] [] := FunD.bindsN (ps := ["belief"]) F_posted fun _ _ _ _ _ _ us hl => match us, hl with | [_], _ => rfl
  exact fnD_ok F sc__law_word rfl rfl (by decide) fun cdv A outer s H E hr =>
   ps_seq (pq_try (i := 2) (l := [("BadWorths", fun k => .int k)]) (cs := ["BadWorths"]) rfl rfl sc__law_word.nd rfl rfl (takes_of rfl rfl rfl rfl) (tr__law_word m rfl) (fun W pn xe tk po => ps_1 (pq_if (pf_cmpT (cm_eq rfl (u64 hr)) (pf_varB 0) (pf_b (pf_int)))
      (ps_1 (pq_expr (pf_b (pf_call k_gains_of (hr.mono (by decide)) rfl m.gl_gains_of F_gains_of.kp b_gains_of tk (pf_cons (pf_var 1) (pf_nil)) (len_cons (len_nil))))))
      (ps_1 (pq_if (pf_cmpT (cm_eq rfl (u64 hr)) (pf_varB 0) (pf_b (pf_int)))
      (ps_1 (pq_expr (pf_b (pf_call k_smooth_of (hr.mono (by decide)) rfl m.gl_smooth_of F_smooth_of.kp b_smooth_of tk (pf_cons (pf_var 1) (pf_nil)) (len_cons (len_nil))))))
      (ps_1 (pq_expr (pf_b (pf_call k_posted (hr.mono (by decide)) rfl m.gl_posted F_posted.kp b_posted tk (pf_cons (pf_var 1) (pf_nil)) (len_cons (len_nil))))))))))
      (.cons rfl m.gl_BadWorths (suite_at (show (2 : Nat) < 3 by decide) rfl (by exact Or.inl rfl)) (.nil)))
      (ps_1 (pq_ret (pf_non)))
def m_law : List PyData → Res PyData := mDef 1 24 (
 sSeq (sSet 1 (eCall m__law_draws (eCons (eVar 0) (eNil))))
      (sSeq (sFor (e1 rg1 (eCons (eC (.int 4)) (eNil))) (gSet 2)
      (sSeq (sSet 3 (eCall m__law_belief (eCons (eVar 1) (eCons (e2 addD (eC (.int 10)) (e2 mulD (eC (.int 20)) (eVarB 2))) (eNil)))))
      (sSeq (sSet 4 (eCall m__law_gains (eCons (eVar 3) (eNil))))
      (sSeq (sSet 5 (eCall m__law_smooth (eCons (eVar 3) (eCons (eVar 4) (eNil)))))
      (sSeq (sIf (eOr (eTb (e2 isnD (eCall m_is_belief (eCons (e1 listD (e1 listN (eCons (eVarB 3) eNil))) (eNil))) (eC (.bool true)))) (eOr (eTb (e2 neD (eCall m_gains_of (eCons (e1 listD (e1 listN (eCons (eVarB 3) eNil))) (eNil))) (eVarB 4))) (eTb (e2 neD (eCall m_smooth_of (eCons (e1 listD (e1 listN (eCons (eVarB 3) eNil))) (eNil))) (eVarB 5)))))
      (sRet (eC (.bool false)))
      (sPass))
      (sSeq (sIf (eTb (e2 neD (e1 listD (eComp [19] (e1 rg1 (eCons (e2 subD (e1 lenD (eCons (eVarB 5) eNil)) (eC (.int 1))) (eNil))) (gSet 19) (eTb (eCall m__law_is_less (eCons (e2 ixD (eVarB 5) (e2 addD (eVarB 19) (eC (.int 1)))) (eCons (e2 ixD (eVarB 5) (eVarB 19)) (eNil))))) (eVar 19))) (e1 listD (eNil))))
      (sRet (eC (.bool false)))
      (sPass))
      (sSeq (sSet 6 (e1 listD (eComp [20] (e1 itL (e1 listD (eCons (eVar 4) (eCons (eVar 5) (eNil))))) (gSet 20) (eTrue) (eCall m__law_sum (eCons (e1 listD (eComp [19] (e1 rg1 (eCons (e1 lenD (eCons (eVarB 3) eNil)) (eNil))) (gSet 19) (eTrue) (eCall m__law_times (eCons (e1 tupD (eCons (e2 ixD (e2 ixD (eVarB 3) (eVarB 19)) (eC (.int 1))) (eCons (eC (.int 1)) (eNil)))) (eCons (e2 ixD (eVarB 20) (eVarB 19)) (eNil)))))) (eNil))))))
      (sSeq (sIf (eOr (eTb (e2 neD (e2 ixD (eVarB 6) (eC (.int 0))) (e2 ixD (eVarB 6) (eC (.int 1))))) (eTb (e2 neD (e2 ixD (eVarB 6) (eC (.int 0))) (e1 tupD (eCons (e2 mulD (e2 ixD (e2 ixD (eVarB 3) (eC (.int 0))) (eC (.int 0))) (e1 sumD (eCons (e1 listD (eComp [15, 16] (e1 itL (eVarB 3)) (gUnp (gsCons (gSet 15) (gsCons (gSet 16) (gsNil)))) (eTrue) (eVar 16))) eNil))) (eCons (eC (.int 1)) (eNil)))))))
      (sRet (eC (.bool false)))
      (sPass))
      (sSeq (sSet 7 (e1 sumD (eCons (e1 listD (eComp [15, 16] (e1 itL (eVarB 3)) (gUnp (gsCons (gSet 15) (gsCons (gSet 16) (gsNil)))) (eTrue) (eVar 16))) eNil)))
      (sSeq (sSet 8 (e1 listD (eComp [15, 16] (e1 itL (eVarB 3)) (gUnp (gsCons (gSet 15) (gsCons (gSet 16) (gsNil)))) (eTrue) (e1 tupD (eCons (e2 mulD (eVarB 15) (e1 sumD (eCons (e1 listD (eComp [21, 22] (e1 itL (eVarB 3)) (gUnp (gsCons (gSet 21) (gsCons (gSet 22) (gsNil)))) (eTb (e2 geD (eVarB 21) (eVarB 15))) (eVar 22))) eNil))) (eCons (eVar 15) (eNil)))))))
      (sSeq (sSet 9 (e1 maxTD (eCons (eVarB 8) eNil)))
      (sSeq (sSet 10 (e2 ixD (e1 listD (eCons (eCall m__law_low (eCons (e2 ixD (eVarB 9) (eC (.int 0))) (eCons (eVar 7) (eNil)))) (eCons (eC .none) (eNil)))) (e1 intD (eCons (e2 eqD (e2 ixD (eVarB 9) (eC (.int 0))) (eC (.int 0))) eNil))))
      (sSeq (sSet 11 (eCall m_posted (eCons (e1 listD (e1 listN (eCons (eVarB 3) eNil))) (eNil))))
      (sSeq (sIf (eOr (eTb (e2 neD (e2 isD (eVarB 11) (eC .none)) (e2 isD (eVarB 10) (eC .none)))) (eAnd (eTb (e2 isnD (eVarB 11) (eC .none))) (eTb (e2 neD (eVarB 11) (e1 tupD (eCons (e2 ixD (eVarB 9) (eC (.int 1))) (eCons (eVar 10) (eNil))))))))
      (sRet (eC (.bool false)))
      (sPass))
      (sSeq (sSet 12 (e1 listD (eComp [19] (e1 rg1 (eCons (e1 lenD (eCons (eVarB 3) eNil)) (eNil))) (gSet 19) (eTb (e2 gtD (e2 ixD (e2 ixD (eVarB 5) (eVarB 19)) (eC (.int 0))) (eC (.int 0)))) (e2 ixD (e2 ixD (eVarB 3) (eVarB 19)) (eC (.int 0))))))
      (sSeq (sIf (eAnd (eTb (e2 isnD (eVarB 11) (eC .none))) (eTb (e2 neD (e2 ixD (eVarB 11) (eC (.int 0))) (e2 ixD (eVarB 12) (eC (.int 0))))))
      (sRet (eC (.bool false)))
      (sPass))
      (sSeq (sAsg (gUnp (gsCons (gSet 13) (gsCons (gSet 14) (gsNil)))) (e1 tupD (eCons (eCall m__law_mix (eCons (eVar 1) (eCons (e2 addD (eC (.int 100)) (eVarB 2)) (eCons (e1 lenD (eCons (eVarB 3) eNil)) (eNil))))) (eCons (e2 subD (e1 lenD (eCons (eVarB 3) eNil)) (eC (.int 1))) (eNil)))))
      (sSeq (sAsg (gUnp (gsCons (gSet 15) (gsCons (gSet 16) (gsNil)))) (e2 ixD (eVarB 3) (eVarB 13)))
      (sSeq (sSet 17 (e1 listD (eComp [23] (e1 itL (e1 listD (eCons (e1 tupD (eCons (eVar 15) (eCons (eC (.int 0)) (eNil)))) (eCons (e1 tupD (eCons (eVar 15) (eCons (eC (.int 101)) (eNil)))) (eCons (e1 tupD (eCons (e1 negD (eC (.int 1))) (eCons (eVar 16) (eNil)))) (eCons (e1 tupD (eCons (eC (.int 1001)) (eCons (eVar 16) (eNil)))) (eNil))))))) (gSet 23) (eTrue) (e2 addD (e2 addD (eSl slT (eVarB 3) (eNone) (e1 asI (eVarB 13))) (e1 listD (eCons (eVar 23) (eNil)))) (eSl slT (eVarB 3) (e1 asI (e2 addD (eVarB 13) (eC (.int 1)))) (eNone))))))
      (sSeq (sSet 17 (e2 addD (eVarB 17) (e1 listD (eCons (e2 addD (eVarB 3) (e1 listD (eCons (e2 ixD (eVarB 3) (eVarB 14)) (eNil)))) (eCons (e2 addD (e1 listD (e1 revL (eVarB 3))) (e1 listD (eCons (e1 tupD (eCons (eC (.int 0)) (eCons (eC (.int 1)) (eNil)))) (eNil)))) (eCons (e1 listD (eNil)) (eCons (e1 listD (eComp [19] (e1 rg1 (eCons (eC (.int 7)) (eNil))) (gSet 19) (eTrue) (e1 tupD (eCons (eVar 19) (eCons (eC (.int 1)) (eNil)))))) (eCons (e2 addD (eSl slT (eVarB 3) (eNone) (e1 asI (eC (.int 1)))) (eSl slT (eVarB 3) (eNone) (e1 asI (eC (.int 1))))) (eNil)))))))))
      (sFor (e1 itL (eVar 17)) (gSet 18)
      (sIf (eOr (eTb (e2 isnD (eCall m_is_belief (eCons (e1 listD (e1 listN (eCons (eVarB 18) eNil))) (eNil))) (eC (.bool false)))) (eTb (e2 neD (e1 listD (eComp [24] (e1 rg1 (eCons (eC (.int 3)) (eNil))) (gSet 24) (eTrue) (eCall m__law_word (eCons (eVar 24) (eCons (e1 listD (e1 listN (eCons (eVarB 18) eNil))) (eNil)))))) (e1 listD (eCons (eC (.int 0)) (eCons (eC (.int 0)) (eCons (eC (.int 0)) (eNil))))))))
      (sRet (eC (.bool false)))
      (sPass)))))))))))))))))))))))
      (sRet (eBool (eAnd (eTb (eCall m_is_belief (eCons (e1 listD (eCons (e1 tupD (eCons (eC (.int 0)) (eCons (eC (.int 1)) (eNil)))) (eNil))) (eNil)))) (eAnd (eTb (eCall m_is_belief (eCons (e1 listD (eCons (e1 tupD (eCons (eC (.int 1000)) (eCons (eC (.int 100)) (eNil)))) (eNil))) (eNil)))) (eAnd (eTb (e2 isD (eCall m_posted (eCons (e1 listD (eCons (e1 tupD (eCons (eC (.int 0)) (eCons (eC (.int 5)) (eNil)))) (eNil))) (eNil))) (eC .none))) (eTb (e2 eqD (eCall m_gains_of (eCons (e1 listD (eCons (e1 tupD (eCons (eC (.int 3)) (eCons (eC (.int 1)) (eNil)))) (eCons (e1 tupD (eCons (eC (.int 5)) (eCons (eC (.int 1)) (eNil)))) (eNil)))) (eNil))) (e1 listD (eCons (e1 tupD (eCons (eC (.int 1)) (eCons (eC (.int 1)) (eNil)))) (eCons (e1 tupD (eCons (eC (.int 5)) (eCons (eC (.int 1)) (eNil)))) (eNil)))))))))))))
theorem sc_law : FnScope ["script", "draws", "turn", "belief", "gains", "smooth", "weighed", "whole", "rows", "most", "due", "told", "above", "at", "last", "worth", "weight", "bads", "bad", "t", "row", "other", "more", "one", "which"] ["script"] (defScope st_law) := ⟨rfl, rfl, rfl, by decide +kernel, rfl, by decide +kernel, by decide +kernel⟩
theorem ok_law {w : World} {K : PySem.W.Frag} {mg : Str → Option Value} {base : Heap} (m : M K mg) {fd : FuncData} (F : FnP K "law" st_law (He.ga K "law") fd) : FnOk PP w K mg base (L2.CX PP w) 7 (He.ga K "law") fd ["script"] (spOf K mg 1 m_law) := by
  obtain ⟨fd__law_draws, F__law_draws⟩ := m.fn__law_draws
  have k__law_draws := ok__law_draws (w := w) (base := base) m F__law_draws
  have b__law_draws : Binds K fd__law_draws ["script"] [] := FunD.bindsN (ps := ["script"]) F__law_draws fun _ _ _ _ _ _ us hl => match us, hl with | [_], _ => rfl
  obtain ⟨fd__law_belief, F__law_belief⟩ := m.fn__law_belief
  have k__law_belief := ok__law_belief (w := w) (base := base) m F__law_belief
  have b__law_belief : Binds K fd__law_belief ["draws", "k"] [] := FunD.bindsN (ps := ["draws", "k"]) F__law_belief fun _ _ _ _ _ _ us hl => match us, hl with | [_, _], _ => rfl
  obtain ⟨fd__law_gains, F__law_gains⟩ := m.fn__law_gains
  have k__law_gains := ok__law_gains (w := w) (base := base) m F__law_gains
  have b__law_gains : Binds K fd__law_gains ["belief"] [] := FunD.bindsN (ps := ["belief"]) F__law_gains fun _ _ _ _ _ _ us hl => match us, hl with | [_], _ => rfl
  obtain ⟨fd__law_smooth, F__law_smooth⟩ := m.fn__law_smooth
  have k__law_smooth := ok__law_smooth (w := w) (base := base) m F__law_smooth
  have b__law_smooth : Binds K fd__law_smooth ["belief", "gains"] [] := FunD.bindsN (ps := ["belief", "gains"]) F__law_smooth fun _ _ _ _ _ _ us hl => match us, hl with | [_, _], _ => rfl
  obtain ⟨fd_smooth_of, F_smooth_of⟩ := m.fn_smooth_of
  have k_smooth_of := ok_smooth_of (w := w) (base := base) m F_smooth_of
  have b_smooth_of : Binds K fd_smooth_of ["belief"] [] := FunD.bindsN (ps := ["belief"]) F_smooth_of fun _ _ _ _ _ _ us hl => match us, hl with | [_], _ => rfl
  obtain ⟨fd_gains_of, F_gains_of⟩ := m.fn_gains_of
  have k_gains_of := ok_gains_of (w := w) (base := base) m F_gains_of
  have b_gains_of : Binds K fd_gains_of ["belief"] [] := FunD.bindsN (ps := ["belief"]) F_gains_of fun _ _ _ _ _ _ us hl => match us, hl with | [_], _ => rfl
  obtain ⟨fd_is_belief, F_is_belief⟩ := m.fn_is_belief
  have k_is_belief := ok_is_belief (w := w) (base := base) m F_is_belief
  have b_is_belief : Binds K fd_is_belief ["told"] [] := FunD.bindsN (ps := ["told"]) F_is_belief fun _ _ _ _ _ _ us hl => match us, hl with | [_], _ => rfl
  obtain ⟨fd__law_is_less, F__law_is_less⟩ := m.fn__law_is_less
  have k__law_is_less := ok__law_is_less (w := w) (base := base) m F__law_is_less
  have b__law_is_less : Binds K fd__law_is_less ["one", "two"] [] := FunD.bindsN (ps := ["one", "two"]) F__law_is_less fun _ _ _ _ _ _ us hl => match us, hl with | [_, _], _ => rfl
  obtain ⟨fd__law_times, F__law_times⟩ := m.fn__law_times
  have k__law_times := ok__law_times (w := w) (base := base) m F__law_times
  have b__law_times : Binds K fd__law_times ["one", "two"] [] := FunD.bindsN (ps := ["one", "two"]) F__law_times fun _ _ _ _ _ _ us hl => match us, hl with | [_, _], _ => rfl
  obtain ⟨fd__law_sum, F__law_sum⟩ := m.fn__law_sum
  have k__law_sum := ok__law_sum (w := w) (base := base) m F__law_sum
  have b__law_sum : Binds K fd__law_sum ["rows"] [] := FunD.bindsN (ps := ["rows"]) F__law_sum fun _ _ _ _ _ _ us hl => match us, hl with | [_], _ => rfl
  obtain ⟨fd__law_low, F__law_low⟩ := m.fn__law_low
  have k__law_low := ok__law_low (w := w) (base := base) m F__law_low
  have b__law_low : Binds K fd__law_low ["n", "d"] [] := FunD.bindsN (ps := ["n", "d"]) F__law_low fun _ _ _ _ _ _ us hl => match us, hl with | [_, _], _ => rfl
  obtain ⟨fd_posted, F_posted⟩ := m.fn_posted
  have k_posted := ok_posted (w := w) (base := base) m F_posted
  have b_posted : Binds K fd_posted ["belief"] [] := FunD.bindsN (ps := ["belief"]) F_posted fun _ _ _ _ _ _ us hl => match us, hl with | [_], _ => rfl
  obtain ⟨fd__law_mix, F__law_mix⟩ := m.fn__law_mix
  have k__law_mix := ok__law_mix (w := w) (base := base) m F__law_mix
  have b__law_mix : Binds K fd__law_mix ["draws", "k", "many"] [] := FunD.bindsN (ps := ["draws", "k", "many"]) F__law_mix fun _ _ _ _ _ _ us hl => match us, hl with | [_, _, _], _ => rfl
  obtain ⟨fd__law_word, F__law_word⟩ := m.fn__law_word
  have k__law_word := ok__law_word (w := w) (base := base) m F__law_word
  have b__law_word : Binds K fd__law_word ["which", "told"] [] := FunD.bindsN (ps := ["which", "told"]) F__law_word fun _ _ _ _ _ _ us hl => match us, hl with | [_, _], _ => rfl
  exact fnD_ok F sc_law rfl rfl (by decide) fun cdv A outer s H E hr =>
   ps_seq (pq_set (i := 1) sc_law.nd rfl (by first | exact Or.inl rfl | exact Or.inr rfl) (pf_call k__law_draws (hr.mono (by decide)) rfl m.gl__law_draws F__law_draws.kp b__law_draws (takes_of rfl rfl rfl rfl) (pf_cons (pf_var 0) (pf_nil)) (len_cons (len_nil))))
      (ps_seq (pq_for (passes_of rfl) rfl (pf_range1 rfl (m.fr_range) (pf_consB (pf_b (pf_int)) (pf_nilB))) (pf_gname 2 sc_law.nd rfl (by first | exact Or.inl rfl | exact Or.inr rfl))
      (ps_seq (pq_set (i := 3) sc_law.nd rfl (by first | exact Or.inl rfl | exact Or.inr rfl) (pf_call k__law_belief (hr.mono (by decide)) rfl m.gl__law_belief F__law_belief.kp b__law_belief (takes_of rfl rfl rfl rfl) (pf_cons (pf_var 1) (pf_cons (pf_add rfl (pf_b (pf_int)) (pf_b (pf_mul (pf_b (pf_int)) (pf_varB 2)))) (pf_nil))) (len_cons (len_cons (len_nil)))))
      (ps_seq (pq_set (i := 4) sc_law.nd rfl (by first | exact Or.inl rfl | exact Or.inr rfl) (pf_call k__law_gains (hr.mono (by decide)) rfl m.gl__law_gains F__law_gains.kp b__law_gains (takes_of rfl rfl rfl rfl) (pf_cons (pf_var 3) (pf_nil)) (len_cons (len_nil))))
      (ps_seq (pq_set (i := 5) sc_law.nd rfl (by first | exact Or.inl rfl | exact Or.inr rfl) (pf_call k__law_smooth (hr.mono (by decide)) rfl m.gl__law_smooth F__law_smooth.kp b__law_smooth (takes_of rfl rfl rfl rfl) (pf_cons (pf_var 3) (pf_cons (pf_var 4) (pf_nil))) (len_cons (len_cons (len_nil)))))
      (ps_seq (pq_if (PW.pt (pf_or (pf_cmpT cm_isn (pf_b (pf_call k_is_belief (hr.mono (by decide)) rfl m.gl_is_belief F_is_belief.kp b_is_belief (takes_of rfl rfl rfl rfl) (pf_cons (pf_n (pf_list (m.fr_list) (pf_varB 3))) (pf_nil)) (len_cons (len_nil)))) (pf_b (pf_bl))) (pf_or (pf_cmpT (cm_ne rfl (u64 hr)) (pf_b (pf_call k_gains_of (hr.mono (by decide)) rfl m.gl_gains_of F_gains_of.kp b_gains_of (takes_of rfl rfl rfl rfl) (pf_cons (pf_n (pf_list (m.fr_list) (pf_varB 3))) (pf_nil)) (len_cons (len_nil)))) (pf_varB 4)) (pf_or1 (pf_cmpT (cm_ne rfl (u64 hr)) (pf_b (pf_call k_smooth_of (hr.mono (by decide)) rfl m.gl_smooth_of F_smooth_of.kp b_smooth_of (takes_of rfl rfl rfl rfl) (pf_cons (pf_n (pf_list (m.fr_list) (pf_varB 3))) (pf_nil)) (len_cons (len_nil)))) (pf_varB 5))))))
      (ps_1 (pq_ret (pf_bl)))
      (ps_nil))
      (ps_seq (pq_if (pf_cmpT (cm_ne rfl (u64 hr)) (pf_b (pf_n (pf_lc (own := [("t", 19)]) rfl sc_law.nd (pf_range1 rfl (m.fr_range) (pf_consB (pf_b (pf_sub (pf_b (pf_len (m.fr_len) (pf_varB 5))) (pf_b (pf_int)))) (pf_nilB))) (blkOk_by (by kernel_rfl)) (fun _ _ _ _ _ => pf_gname 19 sc_law.nd rfl (by first | exact Or.inl rfl | exact Or.inr rfl)) (fun _ _ _ _ _ => pf_tone (pf_tv (pf_b (pf_call k__law_is_less (hr.mono (by decide)) rfl m.gl__law_is_less F__law_is_less.kp b__law_is_less Pf.takes0 (pf_cons (pf_sub1 rfl (pf_varB 5) (pf_b (pf_add rfl (pf_varB 19) (pf_b (pf_int))))) (pf_cons (pf_sub1 rfl (pf_varB 5) (pf_varB 19)) (pf_nil))) (len_cons (len_cons (len_nil))))))) (fun _ _ _ _ _ => pf_var 19)))) (pf_b (pf_n (pf_lst (pf_nil) (by decide) (len_nil)))))
      (ps_1 (pq_ret (pf_bl)))
      (ps_nil))
      (ps_seq (pq_setLc (own := false) (i := 6) (ow := [("row", 20)]) rfl sc_law.nd rfl rfl (sw_true rfl rfl rfl (by kernel_rfl)) (pf_iB rfl (pf_b (pf_n (pf_lst (pf_cons (pf_var 4) (pf_cons (pf_var 5) (pf_nil))) (by decide) (len_cons (len_cons (len_nil))))))) (blkOk_by (by kernel_rfl)) (fun _ _ _ _ _ => pf_gname 20 sc_law.nd rfl (by first | exact Or.inl rfl | exact Or.inr rfl)) (fun _ _ _ _ _ => pf_tyes) (fun _ _ _ _ _ => pf_call k__law_sum (hr.mono (by decide)) rfl m.gl__law_sum F__law_sum.kp b__law_sum Pf.takes0 (pf_cons (pf_n (pf_lc (own := [("t", 19)]) rfl sc_law.nd (pf_range1 rfl (m.fr_range) (pf_consB (pf_b (pf_len (m.fr_len) (pf_varB 3))) (pf_nilB))) (blkOk_by (by kernel_rfl)) (fun _ _ _ _ _ => pf_gname 19 sc_law.nd rfl (by first | exact Or.inl rfl | exact Or.inr rfl)) (fun _ _ _ _ _ => pf_tyes) (fun _ _ _ _ _ => pf_call k__law_times (hr.mono (by decide)) rfl m.gl__law_times F__law_times.kp b__law_times Pf.takes0 (pf_cons (pf_tup (pf_cons (pf_sub1 rfl (pf_b (pf_sub1 rfl (pf_varB 3) (pf_varB 19))) (pf_b (pf_int))) (pf_cons (pf_int) (pf_nil))) (by decide) (len_cons (len_cons (len_nil)))) (pf_cons (pf_sub1 rfl (pf_varB 20) (pf_varB 19)) (pf_nil))) (len_cons (len_cons (len_nil)))))) (pf_nil)) (len_cons (len_nil))))
      (ps_seq (pq_if (PW.pt (pf_or (pf_cmpT (cm_ne rfl (u64 hr)) (pf_b (pf_sub1 rfl (pf_varB 6) (pf_b (pf_int)))) (pf_b (pf_sub1 rfl (pf_varB 6) (pf_b (pf_int))))) (pf_or1 (pf_cmpT (cm_ne rfl (u64 hr)) (pf_b (pf_sub1 rfl (pf_varB 6) (pf_b (pf_int)))) (pf_b (pf_tup (pf_cons (pf_mul (pf_b (pf_sub1 rfl (pf_b (pf_sub1 rfl (pf_varB 3) (pf_b (pf_int)))) (pf_b (pf_int)))) (pf_b (pf_sum rfl (m.fr_sum) (pf_b (pf_n (pf_lc (own := [("worth", 15), ("weight", 16)]) rfl sc_law.nd (pf_iB rfl (pf_varB 3)) (blkOk_by (by kernel_rfl)) (fun _ _ _ _ _ => pf_gtup rfl rfl (pf_gcons (pf_gname 15 sc_law.nd rfl (by first | exact Or.inl rfl | exact Or.inr rfl)) (pf_gcons (pf_gname 16 sc_law.nd rfl (by first | exact Or.inl rfl | exact Or.inr rfl)) (pf_gnil))) (gsCons_len (gsCons_len (gsNil_len)))) (fun _ _ _ _ _ => pf_tyes) (fun _ _ _ _ _ => pf_var 16))))))) (pf_cons (pf_int) (pf_nil))) (by decide) (len_cons (len_cons (len_nil)))))))))
      (ps_1 (pq_ret (pf_bl)))
      (ps_nil))
      (ps_seq (pq_set (i := 7) sc_law.nd rfl (by first | exact Or.inl rfl | exact Or.inr rfl) (pf_sum rfl (m.fr_sum) (pf_b (pf_n (pf_lc (own := [("worth", 15), ("weight", 16)]) rfl sc_law.nd (pf_iB rfl (pf_varB 3)) (blkOk_by (by kernel_rfl)) (fun _ _ _ _ _ => pf_gtup rfl rfl (pf_gcons (pf_gname 15 sc_law.nd rfl (by first | exact Or.inl rfl | exact Or.inr rfl)) (pf_gcons (pf_gname 16 sc_law.nd rfl (by first | exact Or.inl rfl | exact Or.inr rfl)) (pf_gnil))) (gsCons_len (gsCons_len (gsNil_len)))) (fun _ _ _ _ _ => pf_tyes) (fun _ _ _ _ _ => pf_var 16))))))
      (ps_seq (pq_setLc (own := false) (i := 8) (ow := [("worth", 15), ("weight", 16)]) rfl sc_law.nd rfl rfl (sw_true rfl rfl rfl (by kernel_rfl)) (pf_iB rfl (pf_varB 3)) (blkOk_by (by kernel_rfl)) (fun _ _ _ _ _ => pf_gtup rfl rfl (pf_gcons (pf_gname 15 sc_law.nd rfl (by first | exact Or.inl rfl | exact Or.inr rfl)) (pf_gcons (pf_gname 16 sc_law.nd rfl (by first | exact Or.inl rfl | exact Or.inr rfl)) (pf_gnil))) (gsCons_len (gsCons_len (gsNil_len)))) (fun _ _ _ _ _ => pf_tyes) (fun _ _ _ _ _ => pf_tup (pf_cons (pf_mul (pf_varB 15) (pf_b (pf_sum rfl (m.fr_sum) (pf_b (pf_n (pf_lc (own := [("other", 21), ("more", 22)]) rfl sc_law.nd (pf_iB rfl (pf_varB 3)) (blkOk_by (by kernel_rfl)) (fun _ _ _ _ _ => pf_gtup rfl rfl (pf_gcons (pf_gname 21 sc_law.nd rfl (by first | exact Or.inl rfl | exact Or.inr rfl)) (pf_gcons (pf_gname 22 sc_law.nd rfl (by first | exact Or.inl rfl | exact Or.inr rfl)) (pf_gnil))) (gsCons_len (gsCons_len (gsNil_len)))) (fun _ _ _ _ _ => pf_tone (pf_cmpT cm_ge (pf_varB 21) (pf_varB 15))) (fun _ _ _ _ _ => pf_var 22))))))) (pf_cons (pf_var 15) (pf_nil))) (by decide) (len_cons (len_cons (len_nil)))))
      (ps_seq (pq_set (i := 9) sc_law.nd rfl (by first | exact Or.inl rfl | exact Or.inr rfl) (pf_maxT rfl (u66 hr) (m.fr_max) (pf_varB 8)))
      (ps_seq (pq_set (i := 10) sc_law.nd rfl (by first | exact Or.inl rfl | exact Or.inr rfl) (pf_sub1 rfl (pf_b (pf_n (pf_lst (pf_cons (pf_call k__law_low (hr.mono (by decide)) rfl m.gl__law_low F__law_low.kp b__law_low (takes_of rfl rfl rfl rfl) (pf_cons (pf_sub1 rfl (pf_varB 9) (pf_b (pf_int))) (pf_cons (pf_var 7) (pf_nil))) (len_cons (len_cons (len_nil)))) (pf_cons (pf_non) (pf_nil))) (by decide) (len_cons (len_cons (len_nil)))))) (pf_b (pf_int1 (m.fr_int) (pf_b (pf_cmpV (cm_eq rfl (u64 hr)) (pf_b (pf_sub1 rfl (pf_varB 9) (pf_b (pf_int)))) (pf_b (pf_int))))))))
      (ps_seq (pq_set (i := 11) sc_law.nd rfl (by first | exact Or.inl rfl | exact Or.inr rfl) (pf_call k_posted (hr.mono (by decide)) rfl m.gl_posted F_posted.kp b_posted (takes_of rfl rfl rfl rfl) (pf_cons (pf_n (pf_list (m.fr_list) (pf_varB 3))) (pf_nil)) (len_cons (len_nil))))
      (ps_seq (pq_if (PW.pt (pf_or (pf_cmpT (cm_ne rfl (u64 hr)) (pf_b (pf_cmpV cm_is (pf_varB 11) (pf_b (pf_non)))) (pf_b (pf_cmpV cm_is (pf_varB 10) (pf_b (pf_non))))) (pf_or1 (PW.pt (pf_and (pf_cmpT cm_isn (pf_varB 11) (pf_b (pf_non))) (pf_and1 (pf_cmpT (cm_ne rfl (u64 hr)) (pf_varB 11) (pf_b (pf_tup (pf_cons (pf_sub1 rfl (pf_varB 9) (pf_b (pf_int))) (pf_cons (pf_var 10) (pf_nil))) (by decide) (len_cons (len_cons (len_nil))))))))))))
      (ps_1 (pq_ret (pf_bl)))
      (ps_nil))
      (ps_seq (pq_setLc (own := false) (i := 12) (ow := [("t", 19)]) rfl sc_law.nd rfl rfl (sw_true rfl rfl rfl (by kernel_rfl)) (pf_range1 rfl (m.fr_range) (pf_consB (pf_b (pf_len (m.fr_len) (pf_varB 3))) (pf_nilB))) (blkOk_by (by kernel_rfl)) (fun _ _ _ _ _ => pf_gname 19 sc_law.nd rfl (by first | exact Or.inl rfl | exact Or.inr rfl)) (fun _ _ _ _ _ => pf_tone (pf_cmpT cm_gt (pf_b (pf_sub1 rfl (pf_b (pf_sub1 rfl (pf_varB 5) (pf_varB 19))) (pf_b (pf_int)))) (pf_b (pf_int)))) (fun _ _ _ _ _ => pf_sub1 rfl (pf_b (pf_sub1 rfl (pf_varB 3) (pf_varB 19))) (pf_b (pf_int))))
      (ps_seq (pq_if (PW.pt (pf_and (pf_cmpT cm_isn (pf_varB 11) (pf_b (pf_non))) (pf_and1 (pf_cmpT (cm_ne rfl (u64 hr)) (pf_b (pf_sub1 rfl (pf_varB 11) (pf_b (pf_int)))) (pf_b (pf_sub1 rfl (pf_varB 12) (pf_b (pf_int))))))))
      (ps_1 (pq_ret (pf_bl)))
      (ps_nil))
      (ps_seq (pq_asg (pf_tup (pf_cons (pf_call k__law_mix (hr.mono (by decide)) rfl m.gl__law_mix F__law_mix.kp b__law_mix (takes_of rfl rfl rfl rfl) (pf_cons (pf_var 1) (pf_cons (pf_add rfl (pf_b (pf_int)) (pf_varB 2)) (pf_cons (pf_len (m.fr_len) (pf_varB 3)) (pf_nil)))) (len_cons (len_cons (len_cons (len_nil))))) (pf_cons (pf_sub (pf_b (pf_len (m.fr_len) (pf_varB 3))) (pf_b (pf_int))) (pf_nil))) (by decide) (len_cons (len_cons (len_nil)))) (pf_gtup rfl rfl (pf_gcons (pf_gname 13 sc_law.nd rfl (by first | exact Or.inl rfl | exact Or.inr rfl)) (pf_gcons (pf_gname 14 sc_law.nd rfl (by first | exact Or.inl rfl | exact Or.inr rfl)) (pf_gnil))) (gsCons_len (gsCons_len (gsNil_len)))))
      (ps_seq (pq_asg (pf_sub1 rfl (pf_varB 3) (pf_varB 13)) (pf_gtup rfl rfl (pf_gcons (pf_gname 15 sc_law.nd rfl (by first | exact Or.inl rfl | exact Or.inr rfl)) (pf_gcons (pf_gname 16 sc_law.nd rfl (by first | exact Or.inl rfl | exact Or.inr rfl)) (pf_gnil))) (gsCons_len (gsCons_len (gsNil_len)))))
      (ps_seq (pq_setLc (own := false) (i := 17) (ow := [("one", 23)]) rfl sc_law.nd rfl rfl (sw_true rfl rfl rfl (by kernel_rfl)) (pf_iB rfl (pf_b (pf_n (pf_lst (pf_cons (pf_tup (pf_cons (pf_var 15) (pf_cons (pf_int) (pf_nil))) (by decide) (len_cons (len_cons (len_nil)))) (pf_cons (pf_tup (pf_cons (pf_var 15) (pf_cons (pf_int) (pf_nil))) (by decide) (len_cons (len_cons (len_nil)))) (pf_cons (pf_tup (pf_cons (pf_neg (pf_b (pf_int))) (pf_cons (pf_var 16) (pf_nil))) (by decide) (len_cons (len_cons (len_nil)))) (pf_cons (pf_tup (pf_cons (pf_int) (pf_cons (pf_var 16) (pf_nil))) (by decide) (len_cons (len_cons (len_nil)))) (pf_nil))))) (by decide) (len_cons (len_cons (len_cons (len_cons (len_nil))))))))) (blkOk_by (by kernel_rfl)) (fun _ _ _ _ _ => pf_gname 23 sc_law.nd rfl (by first | exact Or.inl rfl | exact Or.inr rfl)) (fun _ _ _ _ _ => pf_tyes) (fun _ _ _ _ _ => pf_add rfl (pf_b (pf_add rfl (pf_b (pf_slF rfl (pf_varB 3) (pf_pnone) (pf_psome (pf_varB 13)))) (pf_b (pf_n (pf_lst (pf_cons (pf_var 23) (pf_nil)) (by decide) (len_cons (len_nil))))))) (pf_b (pf_slF rfl (pf_varB 3) (pf_psome (pf_b (pf_add rfl (pf_varB 13) (pf_b (pf_int))))) (pf_pnone)))))
      (ps_seq (pq_set (i := 17) sc_law.nd rfl (by first | exact Or.inl rfl | exact Or.inr rfl) (pf_add rfl (pf_varB 17) (pf_b (pf_n (pf_lst (pf_cons (pf_add rfl (pf_varB 3) (pf_b (pf_n (pf_lst (pf_cons (pf_sub1 rfl (pf_varB 3) (pf_varB 14)) (pf_nil)) (by decide) (len_cons (len_nil)))))) (pf_cons (pf_add rfl (pf_b (pf_n (pf_revN (pf_varB 3)))) (pf_b (pf_n (pf_lst (pf_cons (pf_tup (pf_cons (pf_int) (pf_cons (pf_int) (pf_nil))) (by decide) (len_cons (len_cons (len_nil)))) (pf_nil)) (by decide) (len_cons (len_nil)))))) (pf_cons (pf_n (pf_lst (pf_nil) (by decide) (len_nil))) (pf_cons (pf_n (pf_lc (own := [("t", 19)]) rfl sc_law.nd (pf_range1 rfl (m.fr_range) (pf_consB (pf_b (pf_int)) (pf_nilB))) (blkOk_by (by kernel_rfl)) (fun _ _ _ _ _ => pf_gname 19 sc_law.nd rfl (by first | exact Or.inl rfl | exact Or.inr rfl)) (fun _ _ _ _ _ => pf_tyes) (fun _ _ _ _ _ => pf_tup (pf_cons (pf_var 19) (pf_cons (pf_int) (pf_nil))) (by decide) (len_cons (len_cons (len_nil)))))) (pf_cons (pf_add rfl (pf_b (pf_slF rfl (pf_varB 3) (pf_pnone) (pf_psome (pf_b (pf_int))))) (pf_b (pf_slF rfl (pf_varB 3) (pf_pnone) (pf_psome (pf_b (pf_int)))))) (pf_nil)))))) (by decide) (len_cons (len_cons (len_cons (len_cons (len_cons (len_nil)))))))))))
      (ps_1 (pq_for (passes_of rfl) rfl (pf_iF rfl (pf_var 17)) (pf_gname 18 sc_law.nd rfl (by first | exact Or.inl rfl | exact Or.inr rfl))
      (ps_1 (pq_if (PW.pt (pf_or (pf_cmpT cm_isn (pf_b (pf_call k_is_belief (hr.mono (by decide)) rfl m.gl_is_belief F_is_belief.kp b_is_belief (takes_of rfl rfl rfl rfl) (pf_cons (pf_n (pf_list (m.fr_list) (pf_varB 18))) (pf_nil)) (len_cons (len_nil)))) (pf_b (pf_bl))) (pf_or1 (pf_cmpT (cm_ne rfl (u64 hr)) (pf_b (pf_n (pf_lc (own := [("which", 24)]) rfl sc_law.nd (pf_range1 rfl (m.fr_range) (pf_consB (pf_b (pf_int)) (pf_nilB))) (blkOk_by (by kernel_rfl)) (fun _ _ _ _ _ => pf_gname 24 sc_law.nd rfl (by first | exact Or.inl rfl | exact Or.inr rfl)) (fun _ _ _ _ _ => pf_tyes) (fun _ _ _ _ _ => pf_call k__law_word (hr.mono (by decide)) rfl m.gl__law_word F__law_word.kp b__law_word Pf.takes0 (pf_cons (pf_var 24) (pf_cons (pf_n (pf_list (m.fr_list) (pf_varB 18))) (pf_nil))) (len_cons (len_cons (len_nil))))))) (pf_b (pf_n (pf_lst (pf_cons (pf_int) (pf_cons (pf_int) (pf_cons (pf_int) (pf_nil)))) (by decide) (len_cons (len_cons (len_cons (len_nil)))))))))))
      (ps_1 (pq_ret (pf_bl)))
      (ps_nil)))))))))))))))))))))))))
      (ps_1 (pq_ret (pf_vand (pf_b (pf_call k_is_belief (hr.mono (by decide)) rfl m.gl_is_belief F_is_belief.kp b_is_belief (takes_of rfl rfl rfl rfl) (pf_cons (pf_n (pf_lst (pf_cons (pf_tup (pf_cons (pf_int) (pf_cons (pf_int) (pf_nil))) (by decide) (len_cons (len_cons (len_nil)))) (pf_nil)) (by decide) (len_cons (len_nil)))) (pf_nil)) (len_cons (len_nil)))) (pf_vand (pf_b (pf_call k_is_belief (hr.mono (by decide)) rfl m.gl_is_belief F_is_belief.kp b_is_belief (takes_of rfl rfl rfl rfl) (pf_cons (pf_n (pf_lst (pf_cons (pf_tup (pf_cons (pf_int) (pf_cons (pf_int) (pf_nil))) (by decide) (len_cons (len_cons (len_nil)))) (pf_nil)) (by decide) (len_cons (len_nil)))) (pf_nil)) (len_cons (len_nil)))) (pf_vand (pf_b (pf_cmpV cm_is (pf_b (pf_call k_posted (hr.mono (by decide)) rfl m.gl_posted F_posted.kp b_posted (takes_of rfl rfl rfl rfl) (pf_cons (pf_n (pf_lst (pf_cons (pf_tup (pf_cons (pf_int) (pf_cons (pf_int) (pf_nil))) (by decide) (len_cons (len_cons (len_nil)))) (pf_nil)) (by decide) (len_cons (len_nil)))) (pf_nil)) (len_cons (len_nil)))) (pf_b (pf_non)))) (pf_v1 (pf_b (pf_cmpV (cm_eq rfl (u64 hr)) (pf_b (pf_call k_gains_of (hr.mono (by decide)) rfl m.gl_gains_of F_gains_of.kp b_gains_of (takes_of rfl rfl rfl rfl) (pf_cons (pf_n (pf_lst (pf_cons (pf_tup (pf_cons (pf_int) (pf_cons (pf_int) (pf_nil))) (by decide) (len_cons (len_cons (len_nil)))) (pf_cons (pf_tup (pf_cons (pf_int) (pf_cons (pf_int) (pf_nil))) (by decide) (len_cons (len_cons (len_nil)))) (pf_nil))) (by decide) (len_cons (len_cons (len_nil))))) (pf_nil)) (len_cons (len_nil)))) (pf_b (pf_n (pf_lst (pf_cons (pf_tup (pf_cons (pf_int) (pf_cons (pf_int) (pf_nil))) (by decide) (len_cons (len_cons (len_nil)))) (pf_cons (pf_tup (pf_cons (pf_int) (pf_cons (pf_int) (pf_nil))) (by decide) (len_cons (len_cons (len_nil)))) (pf_nil))) (by decide) (len_cons (len_cons (len_nil)))))))))))))))
end K06
/-! K06M: rows side by side (pools of neighbours), supporting lines. -/
namespace K06M
open LawC

section
variable {A R : Nat → Int}
/-- a row [i, j): its ends' means are not above its own -/
def Pre (A R : Nat → Int) (i j : Nat) : Prop := ∀ c, i ≤ c → c ≤ j → (R c - R j) * (A i - A j) ≤ (R i - R j) * (A c - A j)
theorem Pre.one (i : Nat) : Pre A R i (i + 1) := by
  intro c h1 h2
  have : c = i ∨ c = i + 1 := by omega
  rcases this with rfl | rfl
  · exact Int.le_refl _
  · simp
theorem merge_ineq {a b x y u v : Int} (ha : 0 < a) (hb : 0 < b) (h : y * a ≤ x * b) (hv : 0 ≤ v) (hu : u * b ≤ y * v) : u * (a + b) ≤ (x + y) * v := by
  have h1 : u * b * (a + b) ≤ y * v * (a + b) := Int.mul_le_mul_of_nonneg_right hu (by omega)
  have h2 : y * a * v ≤ x * b * v := Int.mul_le_mul_of_nonneg_right h hv
  have h3 : (u * (a + b)) * b ≤ ((x + y) * v) * b := by grind
  exact Int.le_of_mul_le_mul_right h3 hb
theorem merge_ineq2 {a b x y u v : Int} (ha : 0 < a) (hb : 0 < b) (h : y * a ≤ x * b) (hv : v ≤ a) (hu : u * a ≤ x * v) : (u + y) * (a + b) ≤ (x + y) * (v + b) := by
  have h1 : u * a * (a + b) ≤ x * v * (a + b) := Int.mul_le_mul_of_nonneg_right hu (by omega)
  have h2 : y * a * (a - v) ≤ x * b * (a - v) := Int.mul_le_mul_of_nonneg_right h (by omega)
  have h3 : ((u + y) * (a + b)) * a ≤ ((x + y) * (v + b)) * a := by grind
  exact Int.le_of_mul_le_mul_right h3 ha
theorem Pre.merge {i j k : Nat} (hd : ∀ c d, i ≤ c → c ≤ d → d ≤ k → A d ≤ A c) (hij : A j < A i) (hjk : A k < A j) (hi : i ≤ j) (hk : j ≤ k) (p : Pre A R i j) (q : Pre A R j k) (h : (R j - R k) * (A i - A j) ≤ (R i - R j) * (A j - A k)) : Pre A R i k := by
  intro c h1 h2
  by_cases hc : j ≤ c
  · have := merge_ineq (a := A i - A j) (b := A j - A k) (x := R i - R j) (y := R j - R k) (u := R c - R k) (v := A c - A k) (by omega) (by omega) h (by have := hd c k h1 h2 (Nat.le_refl _); omega) (q c hc h2)
    have e1 : A i - A j + (A j - A k) = A i - A k := by omega
    have e2 : R i - R j + (R j - R k) = R i - R k := by omega
    rw [e1, e2] at this
    exact this
  · have := merge_ineq2 (a := A i - A j) (b := A j - A k) (x := R i - R j) (y := R j - R k) (u := R c - R j) (v := A c - A j) (by omega) (by omega) h (by have := hd i c (Nat.le_refl _) h1 h2; omega) (p c h1 (by omega))
    have e1 : A i - A j + (A j - A k) = A i - A k := by omega
    have e2 : R i - R j + (R j - R k) = R i - R k := by omega
    have e3 : R c - R j + (R j - R k) = R c - R k := by omega
    have e4 : A c - A j + (A j - A k) = A c - A k := by omega
    rw [e1, e2, e3, e4] at this
    exact this

/-- a pool: its sum, its weight, how many -/
structure Pool where
  P : Int
  W : Int
  c : Nat
/-- pools side by side from i to j -/
def Row (A R : Nat → Int) : Nat → Nat → List Pool → Prop
  | i, j, [] => i = j
  | i, j, p :: G => 0 < p.c ∧ p.P = R i - R (i + p.c) ∧ p.W = A i - A (i + p.c) ∧ Pre A R i (i + p.c) ∧ Row A R (i + p.c) j G
def Le (p q : Pool) : Prop := p.P * q.W ≤ q.P * p.W
theorem Le.trans {p q r : Pool} (hp : 0 < p.W) (hq : 0 < q.W) (hr : 0 < r.W) (h1 : Le p q) (h2 : Le q r) : Le p r := by
  unfold Le at *
  have a1 : p.P * q.W * r.W ≤ q.P * p.W * r.W := Int.mul_le_mul_of_nonneg_right h1 (by omega)
  have a2 : q.P * r.W * p.W ≤ r.P * q.W * p.W := Int.mul_le_mul_of_nonneg_right h2 (by omega)
  have : (p.P * r.W) * q.W ≤ (r.P * p.W) * q.W := by grind
  exact Int.le_of_mul_le_mul_right this hq
theorem Row.le : ∀ {G : List Pool} {i j : Nat}, Row A R i j G → i ≤ j
  | [], i, j, h => by unfold Row at h; omega
  | p :: G, i, j, h => by
    obtain ⟨h1, _, _, _, h2⟩ := h
    have := Row.le h2
    omega
theorem Row.append : ∀ {G H : List Pool} {i j k : Nat}, Row A R i j G → Row A R j k H → Row A R i k (G ++ H)
  | [], H, i, j, k, h, g => by unfold Row at h; subst h; exact g
  | p :: G, H, i, j, k, h, g => by
    obtain ⟨h1, h2, h3, h4, h5⟩ := h
    exact ⟨h1, h2, h3, h4, Row.append h5 g⟩
theorem Row.split : ∀ {G H : List Pool} {i k : Nat}, Row A R i k (G ++ H) → ∃ j, Row A R i j G ∧ Row A R j k H
  | [], H, i, k, h => ⟨i, rfl, h⟩
  | p :: G, H, i, k, h => by
    obtain ⟨h1, h2, h3, h4, h5⟩ := h
    obtain ⟨j, h6, h7⟩ := Row.split h5
    exact ⟨j, ⟨h1, h2, h3, h4, h6⟩, h7⟩
theorem Row.W_pos (hA : ∀ i j, i < j → A j < A i) : ∀ {G : List Pool} {i j : Nat}, Row A R i j G → ∀ p ∈ G, 0 < p.W
  | [], _, _, _, p, hp => by cases hp
  | q :: G, i, j, h, p, hp => by
    obtain ⟨h1, h2, h3, h4, h5⟩ := h
    rcases List.mem_cons.mp hp with rfl | hp
    · rw [h3]; have := hA i (i + p.c) (by omega); omega
    · exact Row.W_pos hA h5 p hp
/-- right of a pool, pools not below it: the line supports -/
theorem Row.right (hA : ∀ i j, i < j → A j < A i) {q : Pool} (hq : 0 < q.W) : ∀ {G : List Pool} {i j : Nat}, Row A R i j G → (∀ p ∈ G, Le q p) → ∀ c, i ≤ c → c ≤ j → q.P * (A i - A c) ≤ (R i - R c) * q.W
  | [], i, j, h, _, c, h1, h2 => by
    unfold Row at h
    have : c = i := by omega
    subst this
    simp
  | p :: G, i, j, h, hl, c, h1, h2 => by
    obtain ⟨g1, g2, g3, g4, g5⟩ := h
    have hpq := hl p (List.mem_cons_self ..)
    have hp : 0 < p.W := by rw [g3]; have := hA i (i + p.c) (by omega); omega
    unfold Le at hpq
    by_cases hc : c ≤ i + p.c
    · -- within: the pool's beginnings are not below it
      have g := g4 c h1 hc
      rw [← g2, ← g3] at g
      have hx : A c ≤ A i := by
        by_cases e : c = i
        · rw [e]; exact Int.le_refl _
        · exact Int.le_of_lt (hA i c (by omega))
      have k1 : p.P * (A i - A c) ≤ (R i - R c) * p.W := by
        have e1 : R c - R (i + p.c) = p.P - (R i - R c) := by omega
        have e2 : A c - A (i + p.c) = p.W - (A i - A c) := by omega
        rw [e1, e2] at g
        grind
      have k2 : q.P * p.W * (A i - A c) ≤ p.P * q.W * (A i - A c) := Int.mul_le_mul_of_nonneg_right hpq (by omega)
      have k3 : p.P * (A i - A c) * q.W ≤ (R i - R c) * p.W * q.W := Int.mul_le_mul_of_nonneg_right k1 (by omega)
      have k4 : (q.P * (A i - A c)) * p.W ≤ ((R i - R c) * q.W) * p.W := by grind
      exact Int.le_of_mul_le_mul_right k4 hp
    · have ih := Row.right hA hq g5 (fun r hr => hl r (List.mem_cons_of_mem _ hr)) c (by omega) h2
      have e1 : R i - R c = p.P + (R (i + p.c) - R c) := by omega
      have e2 : A i - A c = p.W + (A (i + p.c) - A c) := by omega
      rw [e1, e2]
      grind
/-- a line with a slope p supports all ahead of i -/
def Sup (A R : Nat → Int) (i : Nat) (p : Pool) : Prop := ∀ c, c ≤ i → (R c - R i) * p.W ≤ p.P * (A c - A i)
theorem sup_next (hA : ∀ i j, i < j → A j < A i) {q p : Pool} {i : Nat} (hq : 0 < q.W) (hp : 0 < p.W) (g1 : 0 < q.c) (g2 : q.P = R i - R (i + q.c)) (g3 : q.W = A i - A (i + q.c)) (g4 : Pre A R i (i + q.c)) (h : Le q p) (s : Sup A R i p) : Sup A R (i + q.c) p := by
  intro c hc
  unfold Le at h
  by_cases hi : c ≤ i
  · have := s c hi
    have e1 : R c - R (i + q.c) = (R c - R i) + q.P := by omega
    have e2 : A c - A (i + q.c) = (A c - A i) + q.W := by omega
    rw [e1, e2]
    grind
  · have g := g4 c (by omega) hc
    rw [← g2, ← g3] at g
    have hx : A (i + q.c) ≤ A c := by
      by_cases e : c = i + q.c
      · rw [e]; exact Int.le_refl _
      · exact Int.le_of_lt (hA c (i + q.c) (by omega))
    have k1 : (R c - R (i + q.c)) * q.W * p.W ≤ q.P * (A c - A (i + q.c)) * p.W := Int.mul_le_mul_of_nonneg_right g (by omega)
    have k2 : q.P * p.W * (A c - A (i + q.c)) ≤ p.P * q.W * (A c - A (i + q.c)) := Int.mul_le_mul_of_nonneg_right h (by omega)
    have k3 : ((R c - R (i + q.c)) * p.W) * q.W ≤ (p.P * (A c - A (i + q.c))) * q.W := by grind
    exact Int.le_of_mul_le_mul_right k3 hq
/-- what is known of the t-th smooth gain: the pool [i, j) about t, its line over all -/
structure Good (A R : Nat → Int) (m t : Nat) (P W : Int) : Prop where
  ex : ∃ i j, i ≤ t ∧ t < j ∧ j ≤ m ∧ P = R i - R j ∧ W = A i - A j ∧ ∀ c, c ≤ m → (R c - R i) * W ≤ P * (A c - A i)
def unp (G : List Pool) : List (Int × Int) := G.flatMap fun p => List.replicate p.c (p.P, p.W)
theorem unp_cons (p : Pool) (G : List Pool) : unp (p :: G) = List.replicate p.c (p.P, p.W) ++ unp G := rfl
theorem row_good (hA : ∀ i j, i < j → A j < A i) {m : Nat} : ∀ {G : List Pool} {i : Nat}, Row A R i m G → G.Pairwise Le → (∀ p ∈ G, Sup A R i p) → ∀ k P W, (unp G)[k]? = some (P, W) → Good A R m (i + k) P W
  | [], i, h, _, _, k, P, W, e => by simp [unp] at e
  | p :: G, i, h, hl, hs, k, P, W, e => by
    obtain ⟨g1, g2, g3, g4, g5⟩ := id h
    have hW := Row.W_pos hA h
    have hp := hW p (List.mem_cons_self ..)
    obtain ⟨l1, l2⟩ := List.pairwise_cons.mp hl
    rw [unp_cons] at e
    have hrl := Row.le g5
    by_cases hk : k < p.c
    · rw [List.getElem?_append_left (by simpa using hk), List.getElem?_replicate, if_pos hk] at e
      cases e
      refine ⟨i, i + p.c, by omega, by omega, hrl, g2, g3, fun c hc => ?_⟩
      by_cases hci : c ≤ i
      · exact hs p (List.mem_cons_self ..) c hci
      · -- right
        by_cases hcj : c ≤ i + p.c
        · have g := g4 c (by omega) hcj
          rw [← g2, ← g3] at g
          have e1 : R c - R (i + p.c) = p.P + (R c - R i) := by omega
          have e2 : A c - A (i + p.c) = p.W + (A c - A i) := by omega
          rw [e1, e2] at g
          grind
        · have g := Row.right hA hp g5 l1 c (by omega) hc
          have e1 : R c - R i = -(R (i + p.c) - R c) - p.P := by omega
          have e2 : A c - A i = -(A (i + p.c) - A c) - p.W := by omega
          rw [e1, e2]
          grind
    · rw [List.getElem?_append_right (by simpa using hk)] at e
      simp only [List.length_replicate] at e
      have := row_good hA g5 l2 (fun q hq => sup_next hA hp (hW q (List.mem_cons_of_mem _ hq)) g1 g2 g3 g4 (l1 q hq) (hs q (List.mem_cons_of_mem _ hq))) (k - p.c) P W e
      rw [show i + k = i + p.c + (k - p.c) by omega]
      exact this
theorem sup_0 (p : Pool) : Sup A R 0 p := by
  intro c hc
  have : c = 0 := by omega
  subst this
  simp
end
end K06M
/-! K06P: what the mirrors tell. -/
namespace K06
open PySem PySem.Spec PyProof.Rows L2 Pf LawC
theorem e_draws : m__law_draws = LawC.m__law_draws := Eq.trans rfl rfl
theorem e_mix : m__law_mix = LawC.m__law_mix := Eq.trans rfl rfl
theorem e_plain : m_plain = LawC.m_plain := Eq.trans rfl rfl
theorem e_low : m__law_low = LawC.m__law_low := Eq.trans rfl rfl
theorem e_add : m__law_add = LawC.m__law_add := Eq.trans rfl rfl
theorem e_times : m__law_times = LawC.m__law_times := Eq.trans rfl rfl
theorem e_sum : m__law_sum = LawC.m__law_sum := Eq.trans rfl rfl
abbrev Bel := List (Int × Int)
abbrev belD (b : Bel) : PyData := .list (b.map frD)
/-- what a belief is -/
def isB (b : Bel) : Bool := decide (1 ≤ b.length) && decide (b.length ≤ 6) && b.all (fun p => decide (0 ≤ p.1) && decide (p.1 ≤ 1000)) && (b.zip b.tail).all (fun z => decide (z.1.1 < z.2.1)) && b.all (fun p => decide (1 ≤ p.2) && decide (p.2 ≤ 100))
theorem chain_ok (a b c : Int) (ρ : Ro) (f g h : Ro → Res PyData) (hf : f ρ = .ok (.int a)) (hg : g ρ = .ok (.int b)) (hh : h ρ = .ok (.int c)) : eChain leD leD f g h ρ = .ok (decide (a ≤ b) && decide (b ≤ c)) := by
  simp [hf, hg, hh]
  by_cases e : a ≤ b <;> simp [e]
theorem all_bools {ι : Type} (xs : List ι) (p : ι → Bool) : allD [.list (xs.map fun x => .bool (p x))] = some (.bool (xs.all p)) := by
  have : xs.map (fun x => PyData.bool (p x)) = (xs.map p).map PyData.bool := by simp
  rw [this, allD_bools]
  simp [List.all_map]
theorem is_belief_ok (b : Bel) (hb : b.length ≤ 16777216) : m_is_belief [belD b] = .ok (.bool (isB b)) := by
  have h1 : ∀ ρ : Ro, ρ.length = 7 → compF (gUnp (gsCons (gSet 2) (gsCons (gSet 3) gsNil))) eTrue (eBool (eChain leD leD (eC (.int 0)) (eVarB 2) (eC (.int 1000)))) ρ (b.map frD) = some (b.map fun p => .bool (decide (0 ≤ p.1) && decide (p.1 ≤ 1000))) := fun ρ hρ => by
    refine compF_all frD _ _ fun p hp => ⟨(ρ.set 2 (.val (.int p.1))).set 3 (.val (.int p.2)), rfl, ?_⟩
    rw [eBool_eq, chain_ok 0 p.1 1000 _ _ _ _ rfl (eVarB_val (by rw [List.getElem?_set_ne (by decide), List.getElem?_set_self (by omega)])) rfl]
    rfl
  have h2 : ∀ ρ : Ro, ρ.length = 7 → compF (gUnp (gsCons (gSet 4) (gsCons (gSet 5) gsNil))) eTrue (e2 ltD (e2 ixD (eVarB 4) (eC (.int 0))) (e2 ixD (eVarB 5) (eC (.int 0)))) ρ ((b.zip b.tail).map fun z => .tuple [frD z.1, frD z.2]) = some ((b.zip b.tail).map fun z => .bool (decide (z.1.1 < z.2.1))) := fun ρ hρ => by
    refine compF_all (fun z : (Int × Int) × (Int × Int) => PyData.tuple [frD z.1, frD z.2]) _ _ fun z hz => ⟨(ρ.set 4 (.val (frD z.1))).set 5 (.val (frD z.2)), rfl, ?_⟩
    have e4 : eVarB 4 ((ρ.set 4 (.val (frD z.1))).set 5 (.val (frD z.2))) = .ok (frD z.1) := eVarB_val (by rw [List.getElem?_set_ne (by decide), List.getElem?_set_self (by omega)])
    have e5 : eVarB 5 ((ρ.set 4 (.val (frD z.1))).set 5 (.val (frD z.2))) = .ok (frD z.2) := eVarB_val (by rw [List.getElem?_set_self (by simp; omega)])
    simp [e4, e5]
  have h3 : ∀ ρ : Ro, ρ.length = 7 → compF (gUnp (gsCons (gSet 3) (gsCons (gSet 6) gsNil))) eTrue (eBool (eChain leD leD (eC (.int 1)) (eVarB 6) (eC (.int 100)))) ρ (b.map frD) = some (b.map fun p => .bool (decide (1 ≤ p.2) && decide (p.2 ≤ 100))) := fun ρ hρ => by
    refine compF_all frD _ _ fun p hp => ⟨(ρ.set 3 (.val (.int p.1))).set 6 (.val (.int p.2)), rfl, ?_⟩
    rw [eBool_eq, chain_ok 1 p.2 100 _ _ _ _ rfl (eVarB_val (by rw [List.getElem?_set_self (by simp; omega)])) rfl]
    rfl
  have hz : zipL [belD b, .list ((b.map frD).tail)] = some ((b.zip b.tail).map fun z => .tuple [frD z.1, frD z.2]) := by
    rw [zipL_list _ _ (by simpa using hb)]
    congr 1
    rw [← List.map_tail, List.zip_map, List.map_map]
    rfl
  have hcut : cutD (b.map frD) (some 1) none = (b.map frD).tail := by rw [← List.drop_one]; exact cut_from _ 1
  have hlen : (decide ((1 : Int) ≤ b.length)) = decide (1 ≤ b.length) := by simp only [decide_eq_decide]; omega
  have hlen2 : (decide ((b.length : Int) ≤ 6)) = decide (b.length ≤ 6) := by simp only [decide_eq_decide]; omega
  have hc := chain_ok 1 b.length 6 [.val (belD b), .un, .un, .un, .un, .un, .un] (eC (.int 1)) (e1 lenD (eCons (eVarB 0) eNil)) (eC (.int 6)) rfl (by simp) rfl
  rw [hlen, hlen2] at hc
  have e0 : m_is_belief [belD b] = outR ((sSeq (sIf (eOr (eNot (eChain leD leD (eC (.int 1)) (e1 lenD (eCons (eVarB 0) eNil)) (eC (.int 6)))) (eNot (eTb (e1 allD (eCons (e1 listD (eComp [2, 3] (e1 itL (eVarB 0)) (gUnp (gsCons (gSet 2) (gsCons (gSet 3) (gsNil)))) (eTrue) (eBool (eChain leD leD (eC (.int 0)) (eVarB 2) (eC (.int 1000)))))) eNil)))))
      (sRet (eC (.bool false)))
      (sPass))
      (sSeq (sSet 1 (e1 allD (eCons (e1 listD (eComp [4, 5] (e1 zipL (eCons (eVarB 0) (eCons (eSl slT (eVarB 0) (e1 asI (eC (.int 1))) (eNone)) (eNil)))) (gUnp (gsCons (gSet 4) (gsCons (gSet 5) (gsNil)))) (eTrue) (e2 ltD (e2 ixD (eVarB 4) (eC (.int 0))) (e2 ixD (eVarB 5) (eC (.int 0)))))) eNil)))
      (sRet (eBool (eAnd (eTb (eVarB 1)) (eTb (e1 allD (eCons (e1 listD (eComp [3, 6] (e1 itL (eVarB 0)) (gUnp (gsCons (gSet 3) (gsCons (gSet 6) (gsNil)))) (eTrue) (eBool (eChain leD leD (eC (.int 1)) (eVarB 6) (eC (.int 100)))))) eNil)))))))) [.val (belD b), .un, .un, .un, .un, .un, .un]) := rfl
  rw [e0, sSeq_eq, sIf_eq, eOr_eq, eNot_eq, hc]
  have ha1 := all_bools b fun p => decide (0 ≤ p.1) && decide (p.1 ≤ 1000)
  have ha2 := all_bools (b.zip b.tail) fun z => decide (z.1.1 < z.2.1)
  have ha3 := all_bools b fun p => decide (1 ≤ p.2) && decide (p.2 ≤ 100)
  unfold isB
  cases hL : (decide (1 ≤ b.length) && decide (b.length ≤ 6)) with
  | false => simp only [Res.bind_ok, Res.out_ok, Bool.not_false, if_true, sRet_eq, eC_eq, Out.seq_ret, outR_ret, Bool.false_and]
  | true =>
    simp [h1, ha1]
    cases hA : b.all (fun p => decide (0 ≤ p.1) && decide (p.1 ≤ 1000)) with
    | false => simp
    | true =>
      simp [hcut, hz, h2, ha2]
      cases hB : (b.zip b.tail).all (fun z => decide (z.1.1 < z.2.1)) with
      | false => simp
      | true => simp [h3, ha3]

theorem isB_iff {b : Bel} : isB b = true ↔ 1 ≤ b.length ∧ b.length ≤ 6 ∧ (∀ p ∈ b, 0 ≤ p.1 ∧ p.1 ≤ 1000) ∧ (∀ z ∈ b.zip b.tail, z.1.1 < z.2.1) ∧ ∀ p ∈ b, 1 ≤ p.2 ∧ p.2 ≤ 100 := by
  unfold isB
  simp only [Bool.and_eq_true, decide_eq_true_eq, List.all_eq_true]
  constructor
  · rintro ⟨⟨⟨⟨a, b⟩, c⟩, d⟩, e⟩; exact ⟨a, b, c, d, e⟩
  · rintro ⟨a, b, c, d, e⟩; exact ⟨⟨⟨⟨a, b⟩, c⟩, d⟩, e⟩
theorem check_ok {b : Bel} (h : isB b = true) : m_check_belief [belD b] = .ok .none := by
  have := is_belief_ok b (by have := (isB_iff.mp h).2.1; omega)
  simp [m_check_belief, this, h]
theorem check_exc {b : Bel} (hl : b.length ≤ 16777216) (h : isB b = false) : m_check_belief [belD b] = .exc "BadWorths" 0 := by
  have := is_belief_ok b hl
  simp [m_check_belief, this, h]

/-! ### a drawn belief -/
theorem insU_len (k : Int) : ∀ l : List Int, (insU k l).length ≤ l.length + 1
  | [] => by simp [insU]
  | a :: l => by
    unfold insU
    split
    · simp
    · split
      · simp
      · have := insU_len k l; simp; omega
theorem ssort_len : ∀ l : List Int, (ssort l).length ≤ l.length
  | [] => Nat.le_refl _
  | k :: l => by
    have := insU_len k (ssort l)
    have := ssort_len l
    unfold ssort
    simp
    omega
theorem ssetL_ints (ns : List Int) (h : ns.length < 64) : ssetL (.list (ns.map .int)) = some ((ssort ns).map .int) := by
  show ((intsO (ns.map PyData.int)).bind fun ns => if ns.length < 64 then some ((ssort ns).map PyData.int) else none) = _
  rw [intsO_map]
  exact if_pos h
theorem zip_tail_of_pw {α : Type} {P : α → α → Prop} : ∀ {l : List α}, l.Pairwise P → ∀ z ∈ l.zip l.tail, P z.1 z.2
  | [], _, z, hz => by simp at hz
  | [a], _, z, hz => by simp at hz
  | a :: c :: l, h, z, hz => by
    simp only [List.tail_cons, List.zip_cons_cons, List.mem_cons] at hz
    have h' := List.pairwise_cons.mp h
    rcases hz with rfl | hz
    · exact h'.1 c (List.mem_cons_self ..)
    · exact zip_tail_of_pw h'.2 z (by simpa using hz)
theorem belief_ok {ds : List Int} (hd : Dr ds) {k : Int} (hk : 0 ≤ k) (hk2 : k < 900000) : ∃ b : Bel, m__law_belief [intsD ds, .int k] = .ok (belD b) ∧ isB b = true := by
  have mx : ∀ {j n : Int}, 0 ≤ j → j < 1000000 → 0 < n → m__law_mix [intsD ds, .int j, .int n] = .ok (.int (mixF ds j n)) ∧ 0 ≤ mixF ds j n ∧ mixF ds j n < n := fun a b c => mixF_ok a b c hd.2
  obtain ⟨a1, a2, a3⟩ := mx (j := k + 6) (n := 6) (by omega) (by omega) (by decide)
  obtain ⟨b1, b2, b3⟩ := mx (j := k + 7) (n := 2) (by omega) (by omega) (by decide)
  obtain ⟨c1, c2, c3⟩ := mx (j := k + 8) (n := 4) (by omega) (by omega) (by decide)
  generalize hn : mixF ds (k + 6) 6 = n at *
  generalize hw : mixF ds (k + 7) 2 = w at *
  generalize hq : mixF ds (k + 8) 4 = q at *
  obtain ⟨M, hM, hM0, hM1⟩ : ∃ M : Int, atI [PyData.int 12, PyData.int 1001] w = some (.int M) ∧ 0 < M ∧ M ≤ 1001 := by
    have : w = 0 ∨ w = 1 := by omega
    rcases this with rfl | rfl
    · exact ⟨12, rfl, by decide, by decide⟩
    · exact ⟨1001, rfl, by decide, by decide⟩
  -- the worths
  let ns : List Int := (List.range (1 + n).toNat).map fun t => mixF ds (k + (t : Nat)) M
  have hnl : ns.length = (1 + n).toNat := by simp [ns]
  have hb : ∀ x ∈ ns, 0 ≤ x ∧ x ≤ 1000 := fun x hx => by
    obtain ⟨t, ht, rfl⟩ := List.mem_map.mp hx
    have ht' := List.mem_range.mp ht
    obtain ⟨_, h1, h2⟩ := mx (j := k + (t : Nat)) (n := M) (by omega) (by omega) hM0
    omega
  have hc1 : compF (gSet 4) eTrue (eCall m__law_mix (eCons (eVar 0) (eCons (e2 addD (eVarB 1) (eVarB 4)) (eCons (e2 ixD (e1 listD (eCons (eC (.int 12)) (eCons (eC (.int 1001)) eNil))) (eCall m__law_mix (eCons (eVar 0) (eCons (e2 addD (eVarB 1) (eC (.int 7))) (eCons (eC (.int 2)) eNil))))) eNil))))
      [.val (intsD ds), .val (.int k), .un, .un, .un] (rngL 0 (1 + n).toNat) = some (ns.map .int) := by
    rw [rngL_0, List.map_map]
    refine compF_all _ _ _ fun t ht => ⟨_, rfl, ?_⟩
    have ht' := List.mem_range.mp ht
    obtain ⟨h0, h1, h2⟩ := mx (j := k + (t : Nat)) (n := M) (by omega) (by omega) hM0
    simp [b1, hM, h0]
  have hss := ssetL_ints ns (by omega)
  have hsl := ssort_len ns
  have hsm := ssort_mem ns
  have hsp := ssort_lt ns
  have hs1 : 1 ≤ (ssort ns).length := by
    cases e : ssort ns with
    | nil =>
      have h0 : ns.length ≠ 0 := by omega
      obtain ⟨x, hx⟩ : ∃ x, x ∈ ns := by
        cases hh : ns with
        | nil => rw [hh] at h0; exact absurd rfl h0
        | cons x l => exact ⟨x, List.mem_cons_self ..⟩
      have := (hsm x).mpr hx
      rw [e] at this
      cases this
    | cons a l => simp
  generalize hg : ssort ns = ws at *
  -- the weights
  have hwt : ∀ t : Nat, t < ws.length → ∃ y : Int, 1 ≤ y ∧ y ≤ 100 ∧ atI [PyData.int (1 + mixF ds (k + 10 + (t : Nat)) 100), PyData.int 7, PyData.int (1 + 9 * (t : Nat)), PyData.int (100 * (if t = 0 then 1 else 0) + (if 0 < t then 1 else 0))] q = some (.int y) := fun t ht => by
    obtain ⟨_, h1, h2⟩ := mx (j := k + 10 + (t : Nat)) (n := 100) (by omega) (by omega) (by decide)
    have : q = 0 ∨ q = 1 ∨ q = 2 ∨ q = 3 := by omega
    rcases this with rfl | rfl | rfl | rfl
    · exact ⟨_, by omega, by omega, rfl⟩
    · exact ⟨7, by decide, by decide, rfl⟩
    · exact ⟨_, by omega, by omega, rfl⟩
    · refine ⟨_, ?_, ?_, rfl⟩
      · by_cases e : t = 0
        · subst e; decide
        · have h1 : ¬ t = 0 := e
          have h2 : 0 < t := by omega
          rw [if_neg h1, if_pos h2]; decide
      · by_cases e : t = 0
        · subst e; decide
        · have h1 : ¬ t = 0 := e
          have h2 : 0 < t := by omega
          rw [if_neg h1, if_pos h2]; decide
  let wt : Nat → Int := fun t => if h : t < ws.length then Classical.choose (hwt t h) else 1
  have hwt2 : ∀ t, t < ws.length → 1 ≤ wt t ∧ wt t ≤ 100 ∧ atI [PyData.int (1 + mixF ds (k + 10 + (t : Nat)) 100), PyData.int 7, PyData.int (1 + 9 * (t : Nat)), PyData.int (100 * (if t = 0 then 1 else 0) + (if 0 < t then 1 else 0))] q = some (.int (wt t)) := fun t h => by
    have := Classical.choose_spec (hwt t h)
    simp only [wt, dif_pos h]
    exact this
  let b : Bel := (List.range ws.length).map fun t => (ws.getD t 0, wt t)
  have hbl : b.length = ws.length := by simp [b]
  have hc2 : compF (gSet 4) eTrue (e1 tupD (eCons (e2 ixD (eVarB 2) (eVarB 4)) (eCons (e2 ixD (e1 listD (eCons (e2 addD (eC (.int 1)) (eCall m__law_mix (eCons (eVar 0) (eCons (e2 addD (e2 addD (eVarB 1) (eC (.int 10))) (eVarB 4)) (eCons (eC (.int 100)) eNil))))) (eCons (eC (.int 7)) (eCons (e2 addD (eC (.int 1)) (e2 mulD (eC (.int 9)) (eVarB 4))) (eCons (e2 addD (e2 mulD (eC (.int 100)) (e1 intD (eCons (e2 eqD (eVarB 4) (eC (.int 0))) eNil))) (e2 mulD (eC (.int 1)) (e1 intD (eCons (e2 gtD (eVarB 4) (eC (.int 0))) eNil)))) eNil))))) (eVarB 3)) eNil)))
      [.val (intsD ds), .val (.int k), .val (intsD ws), .val (.int q), .un] (rngL 0 ws.length) = some (b.map frD) := by
    rw [rngL_0, List.map_map]
    refine compF_all _ _ _ fun t ht => ⟨_, rfl, ?_⟩
    have ht' := List.mem_range.mp ht
    obtain ⟨h0, h1, h2⟩ := mx (j := k + 10 + (t : Nat)) (n := 100) (by omega) (by omega) (by decide)
    obtain ⟨_, _, h3⟩ := hwt2 t ht'
    have o1 : okMul 9 (t : Int) = true := okMul_of (k := 4) (l := 10) (by decide) (by omega)
    have o2 : okMul 100 (if t = 0 then 1 else 0) = true := okMul_of (k := 7) (l := 1) (by decide) (by split <;> decide)
    have o3 : okMul 1 (if 0 < t then 1 else 0) = true := okMul_of (k := 1) (l := 1) (by decide) (by split <;> decide)
    have he : eqD (.int (t : Int)) (.int 0) = some (.bool (decide (t = 0))) := by
      unfold eqD
      rw [if_pos ⟨rfl, rfl⟩]
      show some (PyData.bool (decide ((t : Int) = 0))) = _
      congr 2
      simp only [decide_eq_decide]
      omega
    have hx : atI ws (t : Int) = some (ws.getD t 0) := by
      rw [Pf.atI_nat, List.getElem?_eq_getElem ht', List.getD_eq_getElem?_getD, List.getElem?_eq_getElem ht']
      rfl
    have m1 := mulD_int o1
    have m2 := mulD_int o2
    have m3 := mulD_int o3
    simp [hx, h0, m1, he, m2, m3, h3]
  have hws : ∀ t, t < ws.length → ws.getD t 0 ∈ ns := fun t ht => by
    rw [← hsm, List.getD_eq_getElem?_getD, List.getElem?_eq_getElem ht]
    exact List.getElem_mem ht
  refine ⟨b, ?_, isB_iff.mpr ⟨by omega, by omega, fun p hp => ?_, fun z hz => ?_, fun p hp => ?_⟩⟩
  · have hr1 : rg1 [.int (1 + n)] = some (rngL 0 (1 + n).toNat) := rg1_int _ (by omega) (by omega)
    have hr2 : rg1 [.int (ws.length : Int)] = some (rngL 0 ws.length) := by rw [rg1_int _ (by omega) (by omega)]; simp
    simp [m__law_belief, a1, c1, hr1, hc1, hss, hr2, hc2]
  · obtain ⟨t, ht, rfl⟩ := List.mem_map.mp hp
    exact hb _ (hws t (List.mem_range.mp ht))
  · have hpw : b.Pairwise (fun x y => x.1 < y.1) := by
      rw [List.pairwise_map]
      have := List.pairwise_lt_range (n := ws.length)
      refine List.Pairwise.imp_of_mem (fun {i j} hi hj hij => ?_) this
      have hi' := List.mem_range.mp hi
      have hj' := List.mem_range.mp hj
      show ws.getD i 0 < ws.getD j 0
      rw [List.getD_eq_getElem?_getD, List.getD_eq_getElem?_getD, List.getElem?_eq_getElem hi', List.getElem?_eq_getElem hj']
      exact List.pairwise_iff_getElem.mp hsp i j hi' hj' hij
    exact zip_tail_of_pw hpw z hz
  · obtain ⟨t, ht, rfl⟩ := List.mem_map.mp hp
    exact ⟨(hwt2 t (List.mem_range.mp ht)).1, (hwt2 t (List.mem_range.mp ht)).2.1⟩
end K06
/-! K06Q: gains. -/
namespace K06
open PySem PySem.Spec PyProof.Rows L2 Pf LawC
def S (b : Bel) (t : Nat) : Int := ((b.drop t).map (·.2)).sum
def V (b : Bel) (t : Nat) : Int := (b.getD t (0, 0)).1
def Wt (b : Bel) (t : Nat) : Int := (b.getD t (0, 0)).2
def RR (b : Bel) (t : Nat) : Int := V b t * S b t
def AA (b : Bel) (t : Nat) : Int := S b t - ((t - b.length : Nat) : Int)
def gn (b : Bel) (t : Nat) : Int × Int := low (RR b t - RR b (t + 1)) (Wt b t)
def gl (b : Bel) : List (Int × Int) := (List.range b.length).map (gn b)
theorem getD_lt {α : Type} {l : List α} {t : Nat} (d : α) (h : t < l.length) : l.getD t d = l[t] := by
  rw [List.getD_eq_getElem?_getD, List.getElem?_eq_getElem h]; rfl
theorem S_step {b : Bel} {t : Nat} (h : t < b.length) : S b t = Wt b t + S b (t + 1) := by
  unfold S Wt
  rw [List.drop_eq_getElem_cons h, getD_lt _ h, List.map_cons, List.sum_cons]
theorem S_zero {b : Bel} {t : Nat} (h : b.length ≤ t) : S b t = 0 := by
  unfold S
  rw [List.drop_of_length_le h]
  rfl
theorem mem_b {b : Bel} {t : Nat} (h : t < b.length) : (V b t, Wt b t) ∈ b := by
  unfold V Wt
  rw [getD_lt _ h]
  exact List.getElem_mem h
section
variable {b : Bel} (hb : isB b = true)
include hb
theorem len_b : 1 ≤ b.length ∧ b.length ≤ 6 := ⟨(isB_iff.mp hb).1, (isB_iff.mp hb).2.1⟩
theorem V_b {t : Nat} (h : t < b.length) : 0 ≤ V b t ∧ V b t ≤ 1000 := (isB_iff.mp hb).2.2.1 _ (mem_b h)
theorem W_b {t : Nat} (h : t < b.length) : 1 ≤ Wt b t ∧ Wt b t ≤ 100 := (isB_iff.mp hb).2.2.2.2 _ (mem_b h)
theorem S_b : ∀ (n t : Nat), b.length - t = n → 0 ≤ S b t ∧ S b t ≤ 100 * ((b.length - t : Nat) : Int)
  | 0, t, h => by rw [S_zero (by omega)]; omega
  | n + 1, t, h => by
    have ih := S_b n (t + 1) (by omega)
    have := W_b hb (t := t) (by omega)
    rw [S_step (by omega)]
    omega
theorem S_b' (t : Nat) : 0 ≤ S b t ∧ S b t ≤ 600 := by
  have := S_b hb _ t rfl
  have := len_b hb
  omega
theorem S_pos {t : Nat} (h : t < b.length) : 0 < S b t := by
  have := W_b hb h
  have := (S_b' hb (t + 1)).1
  rw [S_step h]
  omega
theorem AA_dec : ∀ i j, i < j → AA b j < AA b i := by
  have one : ∀ i, AA b (i + 1) < AA b i := fun i => by
    unfold AA
    by_cases h : i < b.length
    · have := W_b hb h
      rw [S_step h]
      omega
    · rw [S_zero (by omega), S_zero (by omega)]
      omega
  intro i j h
  induction j with
  | zero => omega
  | succ j ih =>
    by_cases e : i = j
    · subst e; exact one i
    · exact Int.lt_trans (one j) (ih (by omega))
theorem AA_eq {t : Nat} (h : t ≤ b.length) : AA b t = S b t := by
  unfold AA
  have : t - b.length = 0 := by omega
  rw [this]
  simp
theorem V_lt {i j : Nat} (h : i < j) (hj : j < b.length) : V b i < V b j := by
  have hz := (isB_iff.mp hb).2.2.2.1
  have one : ∀ t, t + 1 < b.length → V b t < V b (t + 1) := fun t ht => by
    have hm : (b[t], b[t + 1]) ∈ b.zip b.tail := by
      rw [List.mem_iff_getElem?]
      refine ⟨t, ?_⟩
      rw [List.getElem?_zip_eq_some]
      refine ⟨by rw [List.getElem?_eq_getElem (by omega)], ?_⟩
      rw [List.getElem?_tail, List.getElem?_eq_getElem ht]
    have := hz _ hm
    unfold V
    rw [getD_lt _ (by omega), getD_lt _ ht]
    exact this
  induction j with
  | zero => omega
  | succ j ih =>
    by_cases e : i = j
    · subst e; exact one i hj
    · exact Int.lt_trans (ih (by omega) (by omega)) (one j hj)
theorem RR_b (t : Nat) : 0 ≤ RR b t ∧ RR b t ≤ 600000 := by
  unfold RR
  by_cases h : t < b.length
  · have h1 := V_b hb h
    have h2 := S_b' hb t
    refine ⟨Int.mul_nonneg h1.1 h2.1, ?_⟩
    have := Int.mul_le_mul h1.2 h2.2 h2.1 (by decide)
    omega
  · rw [S_zero (by omega)]
    omega
end
theorem sum_map {ι : Type} (l : List ι) (f : ι → Int) : sumD [.list (l.map fun x => .int (f x))] = some (.int (l.map f).sum) := by
  have : l.map (fun x => PyData.int (f x)) = (l.map f).map PyData.int := by simp
  rw [this, sumD_ints]
theorem addD_list (xs ys : List PyData) (h : xs.length + ys.length ≤ 16777216) : addD (.list xs) (.list ys) = some (.list (xs ++ ys)) := if_pos h
theorem cut_from1 (xs : List PyData) (k : Nat) : cutD xs (some ((k : Int) + 1)) none = xs.drop (k + 1) := cut_from xs (k + 1)
theorem atI_nat1 {α : Type} (xs : List α) (k : Nat) : atI xs ((k : Int) + 1) = xs[k + 1]? := Pf.atI_nat xs (k + 1)
theorem atI_neg1 {α : Type} (xs : List α) (h : 0 < xs.length) : atI xs (-1) = xs[xs.length - 1]? := by
  unfold atI ixN
  rw [if_neg (by decide), if_pos (by omega)]
  have e : ((-1 : Int) + (xs.length : Int)).toNat = xs.length - 1 := by omega
  simp only [Option.bind_some]
  rw [e]
theorem at_b {b : Bel} {t : Nat} (h : t < b.length) : (b.map frD)[t]? = some (frD (V b t, Wt b t)) := by
  rw [List.getElem?_map, List.getElem?_eq_getElem h]
  unfold V Wt
  rw [getD_lt _ h]
  rfl
theorem weights_comp {b : Bel} {t : Nat} (i j : Nat) (hij : i ≠ j) (ρ : Ro) (hi : i < ρ.length) (hj : j < ρ.length) : compF (gUnp (gsCons (gSet i) (gsCons (gSet j) gsNil))) eTrue (eVar j) ρ ((b.drop t).map frD) = some ((b.drop t).map fun p => .int p.2) := by
  refine compF_all frD _ _ fun p _ => ⟨(ρ.set i (.val (.int p.1))).set j (.val (.int p.2)), rfl, ?_⟩
  exact eVar_val (by rw [List.getElem?_set_self (by simpa using hj)])
theorem gain_eq {b : Bel} {t : Nat} (h : t < b.length) (v' : Int) (hv : v' = if t + 1 < b.length then V b (t + 1) else V b t) : V b t * Wt b t - (v' - V b t) * S b (t + 1) = RR b t - RR b (t + 1) := by
  unfold RR
  rw [S_step h, hv]
  by_cases e : t + 1 < b.length
  · rw [if_pos e]; grind
  · rw [if_neg e, S_zero (t := t + 1) (by omega)]; grind
theorem law_gains_ok {b : Bel} (hb : isB b = true) : m__law_gains [belD b] = .ok (.list ((gl b).map frD)) := by
  have hl := len_b hb
  let I : Nat → Ro → Prop := fun i ρ => ∃ (x y z : Sl), ρ = [.val (belD b), .own ((List.range i).map fun t => frD (gn b t)), x, y, z, .un, .un]
  obtain ⟨ρ', h1, x, y, z, rfl⟩ := forF_inv (g := gSet 2) (b := sSeq (sSet 3 (e1 sumD (eCons (e1 listD (eComp [5, 6] (e1 itL (eSl slT (eVarB 0) (e1 asI (e2 addD (eVarB 2) (eC (.int 1)))) (eNone))) (gUnp (gsCons (gSet 5) (gsCons (gSet 6) (gsNil)))) (eTrue) (eVar 6))) eNil)))
      (sSeq (sSet 4 (e2 subD (e2 ixD (e2 ixD (e2 addD (eVarB 0) (e1 listD (eCons (e2 ixD (eVarB 0) (e1 negD (eC (.int 1)))) (eNil)))) (e2 addD (eVarB 2) (eC (.int 1)))) (eC (.int 0))) (e2 ixD (e2 ixD (eVarB 0) (eVarB 2)) (eC (.int 0)))))
      (sApp 1 (eCall m__law_low (eCons (e2 subD (e2 mulD (e2 ixD (e2 ixD (eVarB 0) (eVarB 2)) (eC (.int 0))) (e2 ixD (e2 ixD (eVarB 0) (eVarB 2)) (eC (.int 1)))) (e2 mulD (eVarB 4) (eVarB 3))) (eCons (e2 ixD (e2 ixD (eVarB 0) (eVarB 2)) (eC (.int 1))) (eNil))))))) I (rngL 0 b.length) 0
    [.val (belD b), .own [], .un, .un, .un, .un, .un] ⟨_, _, _, rfl⟩ (by
    rintro j d ρ hj hI
    rw [Nat.zero_add] at hI ⊢
    obtain ⟨x, y, z, rfl⟩ := hI
    obtain ⟨hjl, rfl⟩ := rngL_get hj
    rw [Int.zero_add]
    have hv := V_b hb hjl
    have hw := W_b hb hjl
    have hS := S_b' hb (j + 1)
    let v' : Int := if j + 1 < b.length then V b (j + 1) else V b j
    have hv' : 0 ≤ v' ∧ v' ≤ 1000 := by
      by_cases e : j + 1 < b.length
      · simp only [v', if_pos e]; exact V_b hb e
      · simp only [v', if_neg e]; exact hv
    have hlast : atI (b.map frD) (-1) = some (frD (V b (b.length - 1), Wt b (b.length - 1))) := by
      rw [atI_neg1 _ (by simp; omega), List.length_map, at_b (by omega)]
    have hat1 : atI (b.map frD ++ [frD (V b (b.length - 1), Wt b (b.length - 1))]) ((j : Int) + 1) = some (frD (v', if j + 1 < b.length then Wt b (j + 1) else Wt b j)) := by
      rw [atI_nat1]
      by_cases e : j + 1 < b.length
      · rw [List.getElem?_append_left (by simpa using e), at_b e]
        simp only [v', if_pos e]
      · have e2 : j + 1 = b.length := by omega
        have e3 : b.length - 1 = j := by omega
        rw [List.getElem?_append_right (by simp; omega), e3]
        simp only [v', if_neg e, e2]
        simp
    have hat : atI (b.map frD) (j : Int) = some (frD (V b j, Wt b j)) := by rw [Pf.atI_nat, at_b hjl]
    have hsum := sum_map (b.drop (j + 1)) (·.2)
    have hadd := addD_list (b.map frD) [frD (V b (b.length - 1), Wt b (b.length - 1))] (by simp; omega)
    have o1 : okMul (V b j) (Wt b j) = true := okMul_of (k := 10) (l := 7) (by omega) (by omega)
    have o2 : okMul (v' - V b j) (S b (j + 1)) = true := okMul_of (k := 11) (l := 10) (by omega) (by omega)
    have hlow := llow_ok (RR b j - RR b (j + 1)) (Wt b j) (by omega) (by omega)
    have hg := gain_eq hjl v' rfl
    have hcomp := weights_comp (b := b) (t := j + 1) 5 6 (by decide) [.val (belD b), .own ((List.range j).map fun t => frD (gn b t)), .val (.int j), y, z, .un, .un] (by simp) (by simp)
    have hlen : j < 16777216 := by omega
    refine ⟨[.val (belD b), .own ((List.range j).map fun t => frD (gn b t)), .val (.int j), y, z, .un, .un], [.val (belD b), .own ((List.range (j + 1)).map fun t => frD (gn b t)), .val (.int j), .val (.int (S b (j + 1))), .val (.int (v' - V b j)), .un, .un], by simp, .inl ?_, _, _, _, rfl⟩
    have hS' : (List.map (fun x : Int × Int => x.snd) (List.drop (j + 1) b)).sum = S b (j + 1) := rfl
    simp [cut_from1, ← List.map_drop, hcomp, hsum, hlast, hadd, hat1, hat, hS', mulD_int o1, mulD_int o2, hg, e_low, hlow, hlen, List.range_succ]
    exact ⟨rfl, rfl⟩)
  rw [rngL_length, Nat.zero_add] at h1
  have hr : rg1 [.int (b.length : Int)] = some (rngL 0 b.length) := by rw [rg1_int _ (by omega) (by omega)]; simp
  simp [m__law_gains, hr, h1, gl]
theorem gains_in_ok {b : Bel} (hb : isB b = true) : m_gains_in [belD b] = .ok (.list ((gl b).map frD)) := by
  have hl := len_b hb
  let I : Nat → Ro → Prop := fun i ρ => ∃ (x y z u v : Sl), ρ = [.val (belD b), .own ((List.range i).map fun t => frD (gn b t)), x, y, z, u, v, .un, .un]
  obtain ⟨ρ', h1, x, y, z, u, v, rfl⟩ := forF_inv (g := gUnp (gsCons (gSet 2) (gsCons (gUnp (gsCons (gSet 3) (gsCons (gSet 4) (gsNil)))) (gsNil)))) (b := sSeq (sSet 5 (e1 sumD (eCons (e1 listD (eComp [7, 8] (e1 itL (eSl slT (eVarB 0) (e1 asI (e2 addD (eVarB 2) (eC (.int 1)))) (eNone))) (gUnp (gsCons (gSet 7) (gsCons (gSet 8) (gsNil)))) (eTrue) (eVar 8))) eNil)))
      (sSeq (sSet 6 (eIf (eTb (e2 gtD (eVarB 5) (eC (.int 0)))) (e2 subD (e2 ixD (e2 ixD (eVarB 0) (e2 addD (eVarB 2) (eC (.int 1)))) (eC (.int 0))) (eVarB 3)) (eC (.int 0))))
      (sApp 1 (eCall m_plain (eCons (e2 subD (e2 mulD (eVarB 3) (eVarB 4)) (e2 mulD (eVarB 6) (eVarB 5))) (eCons (eVar 4) (eNil))))))) I ((b.map frD).zipIdx.map fun p => .tuple [.int (p.2 : Nat), p.1]) 0
    [.val (belD b), .own [], .un, .un, .un, .un, .un, .un, .un] ⟨_, _, _, _, _, rfl⟩ (by
    rintro j d ρ hj hI
    rw [Nat.zero_add] at hI ⊢
    obtain ⟨x, y, z, u, v, rfl⟩ := hI
    have hjl : j < b.length := by
      have := (List.getElem?_eq_some_iff.mp hj).1
      simpa using this
    have hd : d = .tuple [.int (j : Nat), frD (V b j, Wt b j)] := by
      rw [List.getElem?_map, List.getElem?_zipIdx, at_b hjl] at hj
      simpa using hj.symm
    subst hd
    have hv := V_b hb hjl
    have hw := W_b hb hjl
    have hS := S_b' hb (j + 1)
    let v' : Int := if j + 1 < b.length then V b (j + 1) else V b j
    have hv' : 0 ≤ v' ∧ v' ≤ 1000 := by
      by_cases e : j + 1 < b.length
      · simp only [v', if_pos e]; exact V_b hb e
      · simp only [v', if_neg e]; exact hv
    have hsum := sum_map (b.drop (j + 1)) (·.2)
    have o1 : okMul (V b j) (Wt b j) = true := okMul_of (k := 10) (l := 7) (by omega) (by omega)
    have o2 : okMul (v' - V b j) (S b (j + 1)) = true := okMul_of (k := 11) (l := 10) (by omega) (by omega)
    have hlow := plain_ok (RR b j - RR b (j + 1)) (Wt b j) (by omega) (by omega)
    have hg := gain_eq hjl v' rfl
    have hcomp := weights_comp (b := b) (t := j + 1) 7 8 (by decide) [.val (belD b), .own ((List.range j).map fun t => frD (gn b t)), .val (.int (j : Nat)), .val (.int (V b j)), .val (.int (Wt b j)), u, v, .un, .un] (by simp) (by simp)
    have hlen : j < 16777216 := by omega
    have hS' : (List.map (fun x : Int × Int => x.snd) (List.drop (j + 1) b)).sum = S b (j + 1) := rfl
    have hstep : (if 0 < S b (j + 1) then ((atI (b.map frD) ((j : Int) + 1)).bind fun d => (ixD d (.int 0)).bind fun e => subD e (.int (V b j))) else some (.int 0)) = some (.int (v' - V b j)) := by
      by_cases e : j + 1 < b.length
      · rw [if_pos (S_pos hb e), atI_nat1, at_b e]
        simp only [v', if_pos e]
        simp
      · rw [if_neg (by rw [S_zero (by omega)]; decide)]
        simp only [v', if_neg e]
        simp
    refine ⟨[.val (belD b), .own ((List.range j).map fun t => frD (gn b t)), .val (.int (j : Nat)), .val (.int (V b j)), .val (.int (Wt b j)), u, v, .un, .un], [.val (belD b), .own ((List.range (j + 1)).map fun t => frD (gn b t)), .val (.int (j : Nat)), .val (.int (V b j)), .val (.int (Wt b j)), .val (.int (S b (j + 1))), .val (.int (v' - V b j)), .un, .un], by simp, .inl ?_, _, _, _, _, _, rfl⟩
    by_cases e : 0 < S b (j + 1)
    · rw [if_pos e] at hstep
      obtain ⟨w1, k1, hstep⟩ := Option.bind_eq_some_iff.mp hstep
      obtain ⟨w2, k2, hstep⟩ := Option.bind_eq_some_iff.mp hstep
      simp [cut_from1, ← List.map_drop, hcomp, hsum, hS', e, k1, k2, hstep, mulD_int o1, mulD_int o2, hg, e_plain, hlow, hlen, List.range_succ]
      exact ⟨rfl, rfl⟩
    · rw [if_neg e] at hstep
      have hz : v' - V b j = 0 := by simpa using hstep.symm
      rw [hz] at o2 hg ⊢
      simp [cut_from1, ← List.map_drop, hcomp, hsum, hS', e, mulD_int o1, mulD_int o2, e_plain, hlen, List.range_succ]
      rw [Int.zero_mul, Int.sub_zero] at hg
      rw [hg, hlow]
      simp
      exact ⟨rfl, rfl⟩)
  have hlen : (b.map frD).zipIdx.length = b.length := by simp
  rw [List.length_map, hlen, Nat.zero_add] at h1
  simp [m_gains_in, h1, gl]
theorem gains_of_ok {b : Bel} (hb : isB b = true) : m_gains_of [belD b] = .ok (.list ((gl b).map frD)) := by
  have h1 := check_ok hb
  have h2 := gains_in_ok hb
  simp [m_gains_of, h1, h2]
theorem weight_ok {b : Bel} : m_weight_of [belD b] = .ok (.int (S b 0)) := by
  have hcomp := weights_comp (b := b) (t := 0) 1 2 (by decide) [.val (belD b), .un, .un] (by simp) (by simp)
  have hsum := sum_map b (·.2)
  have hS : S b 0 = (b.map (·.2)).sum := by unfold S; rw [List.drop_zero]
  rw [List.drop_zero] at hcomp
  simp [m_weight_of, hcomp, hsum, hS]
end K06
/-! K06S: the law's smooth gains. -/
namespace K06
open PySem PySem.Spec PyProof.Rows L2 Pf LawC
/-- a sum of whole numbers over one -/
theorem add_one (a c : Int) (ha : a.natAbs < 2 ^ 60) (hc : c.natAbs < 2 ^ 60) : LawC.m__law_add [frD (a, 1), frD (c, 1)] = .ok (frD (a + c, 1)) := by
  have := ladd_ok (a, 1) (c, 1) (okMul_of (k := 60) (l := 1) ha (by show (1 : Int).natAbs < 2 ^ 1; decide)) (okMul_of (k := 60) (l := 1) hc (by show (1 : Int).natAbs < 2 ^ 1; decide)) (by show okMul 1 1 = true; decide) (by show (0 : Int) < 1 * 1; decide) (by show (1 : Int) * 1 < 2 ^ 200; decide)
  rw [this]
  simp [low_one]
theorem sum_ints (l : List Int) (hl : l.length ≤ 100) (hb : ∀ x ∈ l, x.natAbs < 2 ^ 40) : LawC.m__law_sum [.list (l.map fun x => frD (x, 1))] = .ok (frD (l.sum, 1)) := by
  let I : Nat → Ro → Prop := fun i ρ => ∃ x : Sl, ρ = [.val (.list (l.map fun x => frD (x, 1))), .val (frD ((l.take i).sum, 1)), x]
  obtain ⟨ρ', h1, x, rfl⟩ := forF_inv (g := gSet 2) (b := sSet 1 (eCall LawC.m__law_add (eCons (eVar 1) (eCons (eVar 2) (eNil))))) I (l.map fun x => frD (x, 1)) 0 [.val (.list (l.map fun x => frD (x, 1))), .val (frD (0, 1)), .un] ⟨_, rfl⟩ (by
    rintro j d ρ hj hI
    rw [Nat.zero_add] at hI ⊢
    obtain ⟨x, rfl⟩ := hI
    rw [List.getElem?_map] at hj
    obtain ⟨y, hy, rfl⟩ := Option.map_eq_some_iff.mp hj
    have hjl : j < l.length := (List.getElem?_eq_some_iff.mp hy).1
    have hsum : ∀ n, n ≤ l.length → (l.take n).sum.natAbs ≤ n * 2 ^ 40 := by
      intro n
      induction n with
      | zero => intro _; simp
      | succ n ih =>
        intro hn
        have h1 := ih (by omega)
        rw [List.take_succ_eq_append_getElem (by omega), List.sum_append]
        have h2 := hb _ (List.getElem_mem (h := show n < l.length by omega))
        simp only [List.sum_cons, List.sum_nil]
        omega
    have hs := hsum j (by omega)
    have hy2 := hb y (List.mem_of_getElem? hy)
    have ha := add_one (l.take j).sum y (by omega) (by omega)
    have ht : (l.take (j + 1)).sum = (l.take j).sum + y := by
      rw [List.take_succ_eq_append_getElem hjl, List.sum_append]
      have : l[j] = y := by
        have := List.getElem?_eq_some_iff.mp hy
        exact this.2
      rw [this]
      simp
    refine ⟨_, [.val (.list (l.map fun x => frD (x, 1))), .val (frD ((l.take (j + 1)).sum, 1)), .val (frD (y, 1))], rfl, .inl ?_, _, rfl⟩
    simp [ha, ht])
  rw [List.length_map, Nat.zero_add, List.take_length] at h1
  simp [LawC.m__law_sum, h1]
theorem rng2 {i j : Nat} (h : j ≤ 1000) (h2 : i ≤ 1000) : rg2 [.int (i : Int), .int (j : Int)] = some ((List.range (j - i)).map fun t => PyData.int ((i + t : Nat) : Int)) := by
  rw [rg2_int _ _ (by omega) (by omega) (by omega) (by omega) (by omega)]
  unfold rngL
  have : ((j : Int) - (i : Int)).toNat = j - i := by omega
  rw [this]
  congr 2
theorem at_gl {b : Bel} {t : Nat} (h : t < b.length) : ((gl b).map frD)[t]? = some (frD (gn b t)) := by
  unfold gl
  rw [List.getElem?_map, List.getElem?_map, List.getElem?_range h]
  rfl
theorem times_ok {b : Bel} (hb : isB b = true) {t : Nat} (h : t < b.length) : LawC.m__law_times [frD (Wt b t, 1), frD (gn b t)] = .ok (frD (RR b t - RR b (t + 1), 1)) := by
  have hw := W_b hb h
  have hr := RR_b hb t
  have hr2 := RR_b hb (t + 1)
  have hp : 0 < Wt b t := by omega
  have hden := low_den (n := RR b t - RR b (t + 1)) hp
  have hnum := low_num (n := RR b t - RR b (t + 1)) hp
  have hval := low_val (n := RR b t - RR b (t + 1)) hp
  have e := ltimes_ok (Wt b t, 1) (gn b t) (okMul_of (k := 7) (l := 21) (by show (Wt b t).natAbs < 2 ^ 7; omega) (by show (low _ _).1.natAbs < 2 ^ 21; omega)) (okMul_of (k := 1) (l := 7) (by show (1 : Int).natAbs < 2 ^ 1; decide) (by show (low _ _).2.natAbs < 2 ^ 7; omega)) (by show 0 < 1 * (low _ _).2; omega) (by show 1 * (low _ _).2 < 2 ^ 200; omega)
  rw [e]
  have : low (Wt b t * (gn b t).1) (1 * (gn b t).2) = low (RR b t - RR b (t + 1)) 1 := by
    refine low_eq (by show 0 < 1 * (low _ _).2; omega) (by decide) ?_
    show Wt b t * (low _ _).1 * 1 = (RR b t - RR b (t + 1)) * (1 * (low _ _).2)
    rw [Int.mul_one, Int.one_mul, Int.mul_comm, hval]
  rw [this, low_one]
theorem tele (F : Nat → Int) (i : Nat) : ∀ n : Nat, ((List.range n).map fun t => F (i + t) - F (i + t + 1)).sum = F i - F (i + n)
  | 0 => by simp
  | n + 1 => by
    rw [List.range_succ, List.map_append, List.sum_append, tele F i n]
    simp
    have : i + (n + 1) = i + n + 1 := by omega
    rw [this]
    omega
theorem sum_W {b : Bel} (i : Nat) (n : Nat) (h : i + n ≤ b.length) : ((List.range n).map fun t => Wt b (i + t)).sum = S b i - S b (i + n) := by
  rw [← tele (S b) i n]
  congr 1
  apply List.map_congr_left
  intro t ht
  have := List.mem_range.mp ht
  rw [S_step (t := i + t) (by omega)]
  omega
theorem mean_c1 {b : Bel} (hb : isB b = true) {i j : Nat} (h : i < j) (hj : j ≤ b.length) (x y : Sl) : compF (gSet 6) eTrue (eCall m__law_times (eCons (e1 tupD (eCons (e2 ixD (e2 ixD (eVarB 0) (eVarB 6)) (eC (.int 1))) (eCons (eC (.int 1)) eNil))) (eCons (e2 ixD (eVarB 1) (eVarB 6)) eNil)))
      [.val (belD b), .val (.list ((gl b).map frD)), x, y, .un, .un, .un] ((List.range (j - i)).map fun t => PyData.int ((i + t : Nat) : Int)) = some (((List.range (j - i)).map fun t => RR b (i + t) - RR b (i + t + 1)).map fun x => frD (x, 1)) := by
  rw [List.map_map]
  refine compF_all _ _ _ fun t ht => ⟨[.val (belD b), .val (.list ((gl b).map frD)), x, y, .un, .un, .val (.int ((i + t : Nat) : Int))], rfl, ?_⟩
  have ht' := List.mem_range.mp ht
  have k1 : atI (b.map frD) ((i + t : Nat) : Int) = some (frD (V b (i + t), Wt b (i + t))) := by rw [Pf.atI_nat, at_b (by omega)]
  have k2 : atI ((gl b).map frD) ((i + t : Nat) : Int) = some (frD (gn b (i + t))) := by rw [Pf.atI_nat, at_gl (by omega)]
  have k3 := times_ok hb (t := i + t) (by omega)
  generalize ((i + t : Nat) : Int) = z at k1 k2 ⊢
  generalize (gl b).map frD = gd at k2 ⊢
  simp [k1, k2, e_times, k3]
theorem mean_c2 {b : Bel} {i j : Nat} (h : i < j) (hj : j ≤ b.length) (x y z u v : Sl) : compF (gSet 6) eTrue (e2 ixD (e2 ixD (eVarB 0) (eVarB 6)) (eC (.int 1)))
      [.val (belD b), x, y, z, u, v, .un] ((List.range (j - i)).map fun t => PyData.int ((i + t : Nat) : Int)) = some ((List.range (j - i)).map fun t => .int (Wt b (i + t))) := by
  refine compF_all _ _ _ fun t ht => ⟨[.val (belD b), x, y, z, u, v, .val (.int ((i + t : Nat) : Int))], rfl, ?_⟩
  have ht' := List.mem_range.mp ht
  have k1 : atI (b.map frD) ((i + t : Nat) : Int) = some (frD (V b (i + t), Wt b (i + t))) := by rw [Pf.atI_nat, at_b (by omega)]
  generalize ((i + t : Nat) : Int) = w at k1 ⊢
  simp [k1]
theorem mean_eval (bd gd : PyData) (i j : Int) (rl L1 L2 : List PyData) (X D : Int) (z : PyData) (hr : rg2 [.int i, .int j] = some rl)
    (c1 : compF (gSet 6) eTrue (eCall m__law_times (eCons (e1 tupD (eCons (e2 ixD (e2 ixD (eVarB 0) (eVarB 6)) (eC (.int 1))) (eCons (eC (.int 1)) eNil))) (eCons (e2 ixD (eVarB 1) (eVarB 6)) eNil))) [.val bd, .val gd, .val (.int i), .val (.int j), .un, .un, .un] rl = some L1)
    (c2 : ∀ u v : Sl, compF (gSet 6) eTrue (e2 ixD (e2 ixD (eVarB 0) (eVarB 6)) (eC (.int 1))) [.val bd, .val gd, .val (.int i), .val (.int j), u, v, .un] rl = some L2)
    (hs : m__law_sum [.list L1] = .ok (frD (X, 1))) (hsm : sumD [.list L2] = some (.int D)) (o : okMul 1 D = true) (hlow : m__law_low [.int X, .int D] = .ok z) : m__law_mean [bd, gd, .int i, .int j] = .ok z := by
  simp [m__law_mean, hr, c1, hs, c2, hsm, mulD_int o, hlow]
theorem mean_ok {b : Bel} (hb : isB b = true) {i j : Nat} (h : i < j) (hj : j ≤ b.length) : m__law_mean [belD b, .list ((gl b).map frD), .int (i : Int), .int (j : Int)] = .ok (frD (low (RR b i - RR b j) (AA b i - AA b j))) := by
  have hl := len_b hb
  have hA := AA_dec hb i j h
  rw [AA_eq hb hj, AA_eq hb (by omega)] at hA ⊢
  have hr := rng2 (i := i) (j := j) (by omega) (by omega)
  have hxs := tele (RR b) i (j - i)
  have hW := sum_W (b := b) i (j - i) (by omega)
  rw [show i + (j - i) = j by omega] at hxs hW
  have c1 := mean_c1 hb h hj (.val (.int (i : Int))) (.val (.int (j : Int)))
  have c2 := fun u v => mean_c2 (b := b) h hj (.val (.list ((gl b).map frD))) (.val (.int (i : Int))) (.val (.int (j : Int))) u v
  have hs := sum_ints ((List.range (j - i)).map fun t => RR b (i + t) - RR b (i + t + 1)) (by simp; omega) fun x hx => by
    obtain ⟨t, ht, rfl⟩ := List.mem_map.mp hx
    have := RR_b hb (i + t)
    have := RR_b hb (i + t + 1)
    omega
  have hsm := sum_map (List.range (j - i)) (fun t => Wt b (i + t))
  rw [hW] at hsm
  rw [hxs] at hs
  have o : okMul 1 (S b i - S b j) = true := okMul_of (k := 1) (l := 11) (by decide) (by have := S_b' hb i; have := S_b' hb j; omega)
  have hlow := llow_ok (RR b i - RR b j) (S b i - S b j) (by omega) (by have := S_b' hb i; have := S_b' hb j; omega)
  exact mean_eval _ _ _ _ _ _ _ _ _ _ hr c1 c2 (by rw [e_sum]; exact hs) hsm o (by rw [e_low]; exact hlow)
end K06
/-! K06T: the least, the greatest; smooth gains by trying all. -/
namespace K06
open PySem PySem.Spec PyProof.Rows L2 Pf LawC
abbrev Q := Int × Int
def lowQ (p : Q) : Q := low p.1 p.2
def OkQ (p : Q) : Prop := p.1.natAbs < 2 ^ 30 ∧ 0 < p.2 ∧ p.2 < 2 ^ 30
theorem less_ok {p q : Q} (hp : OkQ p) (hq : OkQ q) : m__law_is_less [frD (lowQ p), frD (lowQ q)] = .ok (.bool (decide (p.1 * q.2 < q.1 * p.2))) := by
  have a1 := low_den (n := p.1) hp.2.1
  have a2 := low_den (n := q.1) hq.2.1
  have b1 := low_num (n := p.1) hp.2.1
  have b2 := low_num (n := q.1) hq.2.1
  have hl := low_lt (n := p.1) (n' := q.1) hp.2.1 hq.2.1
  have o1 : okMul (lowQ p).1 (lowQ q).2 = true := okMul_of (k := 30) (l := 30) (Nat.lt_of_le_of_lt b1 hp.1) (by have := hq.2.2; show (low q.1 q.2).2.natAbs < _; omega)
  have o2 : okMul (lowQ q).1 (lowQ p).2 = true := okMul_of (k := 30) (l := 30) (Nat.lt_of_le_of_lt b2 hq.1) (by have := hp.2.2; show (low p.1 p.2).2.natAbs < _; omega)
  have e : decide ((lowQ p).1 * (lowQ q).2 < (lowQ q).1 * (lowQ p).2) = decide (p.1 * q.2 < q.1 * p.2) := by
    simp only [decide_eq_decide]
    exact hl
  generalize lowQ p = u at *
  generalize lowQ q = v at *
  simp [m__law_is_less, mulD_int o1, mulD_int o2]
  exact decide_eq_decide.mp e
theorem best_loop {l : List Q} (hl : ∀ p ∈ l, OkQ p) (m : List PyData → Res PyData) (better : Q → Q → Prop) [∀ p q, Decidable (better p q)] (hm : ∀ p q, OkQ p → OkQ q → m [frD (lowQ p), frD (lowQ q)] = .ok (.bool (decide (better p q))))
    (tr : ∀ p q r, OkQ p → OkQ q → OkQ r → ¬ better q p → ¬ better r q → ¬ better r p) (ir : ∀ p, ¬ better p p) (as : ∀ p q, better p q → ¬ better q p) {h0 : 0 < l.length} :
    ∃ q ∈ l, (∀ p ∈ l, ¬ better p q) ∧ ∃ x, forF (gSet 2) (sSet 1 (e2 ixD (e1 listD (eCons (eVar 1) (eCons (eVar 2) (eNil)))) (e1 intD (eCons (eCall m (eCons (eVar 2) (eCons (eVar 1) (eNil)))) eNil)))) (l.map fun p => frD (lowQ p)) [.val (.list (l.map fun p => frD (lowQ p))), .val (frD (lowQ l[0])), .un] = .nx [.val (.list (l.map fun p => frD (lowQ p))), .val (frD (lowQ q)), x] := by
  let I : Nat → Ro → Prop := fun i ρ => ∃ q x, q ∈ l ∧ (∀ p ∈ l.take i, ¬ better p q) ∧ ρ = [.val (.list (l.map fun p => frD (lowQ p))), .val (frD (lowQ q)), x]
  obtain ⟨ρ', h1, q, x, hq, hb, rfl⟩ := forF_inv (g := gSet 2) (b := sSet 1 (e2 ixD (e1 listD (eCons (eVar 1) (eCons (eVar 2) (eNil)))) (e1 intD (eCons (eCall m (eCons (eVar 2) (eCons (eVar 1) (eNil)))) eNil)))) I (l.map fun p => frD (lowQ p)) 0 [.val (.list (l.map fun p => frD (lowQ p))), .val (frD (lowQ l[0])), .un] ⟨l[0], _, List.getElem_mem _, fun p hp => by simp at hp, rfl⟩ (by
    rintro j d ρ hj hI
    rw [Nat.zero_add] at hI ⊢
    obtain ⟨q, x, hq, hb, rfl⟩ := hI
    rw [List.getElem?_map] at hj
    obtain ⟨y, hy, rfl⟩ := Option.map_eq_some_iff.mp hj
    have hjl : j < l.length := (List.getElem?_eq_some_iff.mp hy).1
    have hyl : l[j] = y := (List.getElem?_eq_some_iff.mp hy).2
    have hym : y ∈ l := List.mem_of_getElem? hy
    have hc := hm y q (hl y hym) (hl q hq)
    have ht := List.take_succ_eq_append_getElem hjl
    rw [hyl] at ht
    have st1 : ∀ L : PyData, better y q → (sSet 1 (e2 ixD (e1 listD (eCons (eVar 1) (eCons (eVar 2) (eNil)))) (e1 intD (eCons (eCall m (eCons (eVar 2) (eCons (eVar 1) (eNil)))) eNil)))) [.val L, .val (frD (lowQ q)), .val (frD (lowQ y))] = .nx [.val L, .val (frD (lowQ y)), .val (frD (lowQ y))] := fun L e => by simp [hc, e]
    have st2 : ∀ L : PyData, ¬ better y q → (sSet 1 (e2 ixD (e1 listD (eCons (eVar 1) (eCons (eVar 2) (eNil)))) (e1 intD (eCons (eCall m (eCons (eVar 2) (eCons (eVar 1) (eNil)))) eNil)))) [.val L, .val (frD (lowQ q)), .val (frD (lowQ y))] = .nx [.val L, .val (frD (lowQ q)), .val (frD (lowQ y))] := fun L e => by simp [hc, e]
    by_cases e : better y q
    · refine ⟨_, _, rfl, .inl (st1 _ e), y, _, hym, fun p hp => ?_, rfl⟩
      rw [ht] at hp
      rcases List.mem_append.mp hp with hp | hp
      · exact tr y q p (hl y hym) (hl q hq) (hl p (List.mem_of_mem_take hp)) (as y q e) (hb p hp)
      · rw [List.mem_singleton.mp hp]; exact ir y
    · refine ⟨_, _, rfl, .inl (st2 _ e), q, _, hq, fun p hp => ?_, rfl⟩
      rw [ht] at hp
      rcases List.mem_append.mp hp with hp | hp
      · exact hb p hp
      · rw [List.mem_singleton.mp hp]; exact e)
  rw [List.length_map, Nat.zero_add, List.take_length] at hb
  exact ⟨q, hq, hb, x, h1⟩
theorem q_tr {p q r : Q} (hp : OkQ p) (hq : OkQ q) (hr : OkQ r) (h1 : p.1 * q.2 ≤ q.1 * p.2) (h2 : q.1 * r.2 ≤ r.1 * q.2) : p.1 * r.2 ≤ r.1 * p.2 := by
  have a1 := Int.mul_le_mul_of_nonneg_right h1 (Int.le_of_lt hr.2.1)
  have a2 := Int.mul_le_mul_of_nonneg_right h2 (Int.le_of_lt hp.2.1)
  have : (p.1 * r.2) * q.2 ≤ (r.1 * p.2) * q.2 := by grind
  exact Int.le_of_mul_le_mul_right this hq.2.1
theorem least_ok {l : List Q} (hl : ∀ p ∈ l, OkQ p) (h0 : 0 < l.length) : ∃ q ∈ l, (∀ p ∈ l, q.1 * p.2 ≤ p.1 * q.2) ∧ m__law_least [.list (l.map fun p => frD (lowQ p))] = .ok (frD (lowQ q)) := by
  obtain ⟨q, hq, hb, x, h1⟩ := best_loop hl m__law_is_less (fun p q => p.1 * q.2 < q.1 * p.2) (fun p q hp hq => less_ok hp hq)
    (fun p q r hp hq hr h1 h2 => by
      have := q_tr hp hq hr (by omega) (by omega)
      omega) (fun p => by omega) (fun p q h => by omega) (h0 := h0)
  refine ⟨q, hq, fun p hp => by have := hb p hp; omega, ?_⟩
  have hat : (l.map fun p => frD (lowQ p))[0]? = some (frD (lowQ l[0])) := by rw [List.getElem?_map, List.getElem?_eq_getElem h0]; rfl
  generalize l.map (fun p => frD (lowQ p)) = L at *
  simp [m__law_least, hat, h1]
theorem greatest_ok {l : List Q} (hl : ∀ p ∈ l, OkQ p) (h0 : 0 < l.length) : ∃ q ∈ l, (∀ p ∈ l, p.1 * q.2 ≤ q.1 * p.2) ∧ m__law_greatest [.list (l.map fun p => frD (lowQ p))] = .ok (frD (lowQ q)) := by
  have sw : ∀ ρ : Ro, eCall (fun ds => m__law_is_less ds.reverse) (eCons (eVar 2) (eCons (eVar 1) eNil)) ρ = eCall (fun ds => m__law_is_less ds.reverse) (eCons (eVar 2) (eCons (eVar 1) eNil)) ρ := fun _ => rfl
  obtain ⟨q, hq, hb, x, h1⟩ := best_loop hl (fun ds => m__law_is_less ds.reverse) (fun p q => q.1 * p.2 < p.1 * q.2) (fun p q hp hq => less_ok hq hp)
    (fun p q r hp hq hr h1 h2 => by
      have := q_tr hr hq hp (by omega) (by omega)
      omega) (fun p => by omega) (fun p q h => by omega) (h0 := h0)
  refine ⟨q, hq, fun p hp => by have := hb p hp; omega, ?_⟩
  have hat : (l.map fun p => frD (lowQ p))[0]? = some (frD (lowQ l[0])) := by rw [List.getElem?_map, List.getElem?_eq_getElem h0]; rfl
  have hbody : ∀ ds : List PyData, ∀ L a b, forF (gSet 2) (sSet 1 (e2 ixD (e1 listD (eCons (eVar 1) (eCons (eVar 2) (eNil)))) (e1 intD (eCons (eCall m__law_is_less (eCons (eVar 1) (eCons (eVar 2) (eNil)))) eNil)))) ds [.val L, .val a, b] =
      forF (gSet 2) (sSet 1 (e2 ixD (e1 listD (eCons (eVar 1) (eCons (eVar 2) (eNil)))) (e1 intD (eCons (eCall (fun ds => m__law_is_less ds.reverse) (eCons (eVar 2) (eCons (eVar 1) (eNil)))) eNil)))) ds [.val L, .val a, b] := by
    intro ds
    induction ds with
    | nil => intro L a b; rfl
    | cons d ds ih =>
      intro L a b
      have e1' : (sSet 1 (e2 ixD (e1 listD (eCons (eVar 1) (eCons (eVar 2) (eNil)))) (e1 intD (eCons (eCall m__law_is_less (eCons (eVar 1) (eCons (eVar 2) (eNil)))) eNil)))) [.val L, .val a, .val d] = (sSet 1 (e2 ixD (e1 listD (eCons (eVar 1) (eCons (eVar 2) (eNil)))) (e1 intD (eCons (eCall (fun ds => m__law_is_less ds.reverse) (eCons (eVar 2) (eCons (eVar 1) (eNil)))) eNil)))) [.val L, .val a, .val d] := by
        simp
      unfold forF
      rw [show gSet 2 d [.val L, .val a, b] = some [.val L, .val a, .val d] from rfl]
      simp only [oNx_some, Out.seq_nx]
      rw [e1']
      rw [sSet_eq]
      cases hh : (e2 ixD (e1 listD (eCons (eVar 1) (eCons (eVar 2) (eNil)))) (e1 intD (eCons (eCall (fun ds => m__law_is_less ds.reverse) (eCons (eVar 2) (eCons (eVar 1) (eNil)))) eNil))) [.val L, .val a, .val d] with
      | ok z => exact ih L z (.val d)
      | exc c k => rfl
      | bad => rfl
  generalize l.map (fun p => frD (lowQ p)) = L at *
  simp [m__law_greatest, hat, hbody, h1]
end K06
/-! K06U: smooth gains by trying all are the pools' means. -/
namespace K06
open PySem PySem.Spec PyProof.Rows L2 Pf LawC
/-- the means of rows that begin at f and end behind t -/
def ml (b : Bel) (f t : Nat) : List Q := (List.range (b.length - t)).map fun s => (RR b f - RR b (t + 1 + s), AA b f - AA b (t + 1 + s))
theorem ml_len {b : Bel} {f t : Nat} : (ml b f t).length = b.length - t := by simp [ml]
section
variable {b : Bel} (hb : isB b = true)
include hb
theorem okq {i j : Nat} (h : i < j) (hj : j ≤ b.length) : OkQ (RR b i - RR b j, AA b i - AA b j) := by
  have h1 := RR_b hb i
  have h2 := RR_b hb j
  have h3 := AA_dec hb i j h
  have h4 := S_b' hb i
  have h5 := S_b' hb j
  rw [AA_eq hb hj, AA_eq hb (by omega)] at *
  refine ⟨?_, ?_, ?_⟩
  · show (RR b i - RR b j).natAbs < 2 ^ 30; omega
  · show 0 < S b i - S b j; omega
  · show S b i - S b j < 2 ^ 30; omega
theorem ml_mem {f t : Nat} (hf : f ≤ t) {q : Q} (h : q ∈ ml b f t) : ∃ j, t < j ∧ j ≤ b.length ∧ q = (RR b f - RR b j, AA b f - AA b j) := by
  obtain ⟨s, hs, rfl⟩ := List.mem_map.mp h
  have := List.mem_range.mp hs
  exact ⟨t + 1 + s, by omega, by omega, rfl⟩
theorem mem_ml {f t j : Nat} (h : t < j) (hj : j ≤ b.length) : (RR b f - RR b j, AA b f - AA b j) ∈ ml b f t := by
  refine List.mem_map.mpr ⟨j - (t + 1), List.mem_range.mpr (by omega), ?_⟩
  rw [show t + 1 + (j - (t + 1)) = j by omega]
theorem ml_ok {f t : Nat} (hf : f ≤ t) : ∀ q ∈ ml b f t, OkQ q := fun q hq => by
  obtain ⟨j, h1, h2, rfl⟩ := ml_mem hb hf hq
  exact okq hb (by omega) h2
omit hb in
theorem call4 (bd gd f s : PyData) (x2 x3 x4 x5 : Sl) : eCall m__law_mean (eCons (eVar 0) (eCons (eVar 1) (eCons (eVar 6) (eCons (eVar 7) (eNil))))) [.val bd, .val gd, x2, x3, x4, x5, .val f, .val s] = m__law_mean [bd, gd, f, s] := by simp
theorem smooth_c {f t : Nat} (hf : f ≤ t) (ht : t < b.length) (x2 x3 x4 x5 : Sl) : compF (gSet 7) eTrue (eCall m__law_mean (eCons (eVar 0) (eCons (eVar 1) (eCons (eVar 6) (eCons (eVar 7) (eNil))))))
      [.val (belD b), .val (.list ((gl b).map frD)), x2, x3, x4, x5, .val (.int (f : Int)), .un] ((List.range (b.length + 1 - (t + 1))).map fun s => PyData.int ((t + 1 + s : Nat) : Int)) = some ((ml b f t).map fun p => frD (lowQ p)) := by
  unfold ml
  rw [List.map_map, show b.length + 1 - (t + 1) = b.length - t by omega]
  refine compF_all _ _ _ fun s hs => ⟨[.val (belD b), .val (.list ((gl b).map frD)), x2, x3, x4, x5, .val (.int (f : Int)), .val (.int ((t + 1 + s : Nat) : Int))], rfl, ?_⟩
  have := List.mem_range.mp hs
  rw [call4]
  exact mean_ok hb (i := f) (j := t + 1 + s) (by omega) (by omega)
/-- the least of each -/
theorem exists_lq {t : Nat} (ht : t < b.length) : ∃ lq : Nat → Q, ∀ f, f ≤ t → lq f ∈ ml b f t ∧ (∀ p ∈ ml b f t, (lq f).1 * p.2 ≤ p.1 * (lq f).2) ∧ m__law_least [.list ((ml b f t).map fun p => frD (lowQ p))] = .ok (frD (lowQ (lq f))) := by
  have h : ∀ f, f ≤ t → ∃ q : Q, q ∈ ml b f t ∧ (∀ p ∈ ml b f t, q.1 * p.2 ≤ p.1 * q.2) ∧ m__law_least [.list ((ml b f t).map fun p => frD (lowQ p))] = .ok (frD (lowQ q)) := fun f hf => by
    obtain ⟨q, h1, h2, h3⟩ := least_ok (ml_ok hb hf) (by rw [ml_len]; omega)
    exact ⟨q, h1, h2, h3⟩
  refine ⟨fun f => if h' : f ≤ t then Classical.choose (h f h') else (0, 1), fun f hf => ?_⟩
  have := Classical.choose_spec (h f hf)
  simp only [dif_pos hf]
  exact this
end
theorem rows_eval (bd gd : PyData) (mi ti fi : Int) (x3 x7 : Sl) (R0 : List PyData) (rl ms : List PyData) (z : PyData) (hr : rg2 [.int (ti + 1), .int (mi + 1)] = some rl)
    (hc : ∀ x2 x3 x4 x5 : Sl, compF (gSet 7) eTrue (eCall m__law_mean (eCons (eVar 0) (eCons (eVar 1) (eCons (eVar 6) (eCons (eVar 7) (eNil)))))) [.val bd, .val gd, x2, x3, x4, x5, .val (.int fi), .un] rl = some ms)
    (hl : m__law_least [.list ms] = .ok z) (hlen : R0.length < 16777216) :
    (sApp 5 (eCall m__law_least (eCons (e1 listD (eComp [7] (e1 rg2 (eCons (e2 addD (eVarB 4) (eC (.int 1))) (eCons (e2 addD (eVarB 2) (eC (.int 1))) (eNil)))) (gSet 7) (eTrue) (eCall m__law_mean (eCons (eVar 0) (eCons (eVar 1) (eCons (eVar 6) (eCons (eVar 7) (eNil)))))))) (eNil)))) [.val bd, .val gd, .val (.int mi), x3, .val (.int ti), .own R0, .val (.int fi), .un] =
      .nx [.val bd, .val gd, .val (.int mi), x3, .val (.int ti), .own (R0 ++ [z]), .val (.int fi), .un] := by
  simp [hr, hc, hl, hlen]
open K06M in
theorem value_eq {b : Bel} (hb : isB b = true) {t : Nat} {P W : Int} (G : Good (AA b) (RR b) b.length t P W) {lq : Nat → Q} (h : ∀ f, f ≤ t → lq f ∈ ml b f t ∧ ∀ p ∈ ml b f t, (lq f).1 * p.2 ≤ p.1 * (lq f).2) {q : Q} (hq : ∃ f, f ≤ t ∧ q = lq f) (hg : ∀ f, f ≤ t → (lq f).1 * q.2 ≤ q.1 * (lq f).2) : 0 < W ∧ lowQ q = low P W := by
  obtain ⟨i, j, hi, hj, hjm, rfl, rfl, hs⟩ := G.ex
  have hA := AA_dec hb
  have hW : 0 < AA b i - AA b j := by have := hA i j (by omega); omega
  obtain ⟨f, hf, rfl⟩ := hq
  have okf := ml_ok hb hf _ (h f hf).1
  refine ⟨hW, low_eq okf.2.1 hW ?_⟩
  -- not above: the row to j
  have up := (h f hf).2 _ (mem_ml hb (f := f) hj hjm)
  have sf := hs f (by omega)
  have e1 : (RR b f - RR b j) * (AA b i - AA b j) ≤ (RR b i - RR b j) * (AA b f - AA b j) := by
    have a1 : RR b f - RR b j = (RR b f - RR b i) + (RR b i - RR b j) := by omega
    have a2 : AA b f - AA b j = (AA b f - AA b i) + (AA b i - AA b j) := by omega
    rw [a1, a2]
    grind
  have hle : (lq f).1 * (AA b i - AA b j) ≤ (RR b i - RR b j) * (lq f).2 :=
    q_tr (p := lq f) (q := (RR b f - RR b j, AA b f - AA b j)) (r := (RR b i - RR b j, AA b i - AA b j)) okf (okq hb (by omega) hjm) (okq hb (by omega) hjm) up e1
  -- not below: the rows from i
  have oki := ml_ok hb hi _ (h i hi).1
  obtain ⟨k, hk1, hk2, hk3⟩ := ml_mem hb hi (h i hi).1
  have sk := hs k hk2
  have e2 : (RR b i - RR b j) * (lq i).2 ≤ (lq i).1 * (AA b i - AA b j) := by
    rw [hk3]
    show (RR b i - RR b j) * (AA b i - AA b k) ≤ (RR b i - RR b k) * (AA b i - AA b j)
    have a1 : RR b k - RR b i = -(RR b i - RR b k) := by omega
    have a2 : AA b k - AA b i = -(AA b i - AA b k) := by omega
    rw [a1, a2] at sk
    grind
  have hge : (RR b i - RR b j) * (lq f).2 ≤ (lq f).1 * (AA b i - AA b j) :=
    q_tr (p := (RR b i - RR b j, AA b i - AA b j)) (q := lq i) (r := lq f) (okq hb (by omega) hjm) oki okf e2 (hg i hi)
  omega
theorem turn_eval (bd gd : PyData) (mi ti : Int) (x5 x6 : Sl) (F0 RW : List PyData) (rl : List PyData) (z : PyData) (h1 : rg1 [.int (ti + 1)] = some rl)
    (h2 : ∀ x6 : Sl, ∃ y : Sl, forF (gSet 6) (sApp 5 (eCall m__law_least (eCons (e1 listD (eComp [7] (e1 rg2 (eCons (e2 addD (eVarB 4) (eC (.int 1))) (eCons (e2 addD (eVarB 2) (eC (.int 1))) (eNil)))) (gSet 7) (eTrue) (eCall m__law_mean (eCons (eVar 0) (eCons (eVar 1) (eCons (eVar 6) (eCons (eVar 7) (eNil)))))))) (eNil)))) rl [.val bd, .val gd, .val (.int mi), .own F0, .val (.int ti), .own [], x6, .un] = .nx [.val bd, .val gd, .val (.int mi), .own F0, .val (.int ti), .own RW, y, .un])
    (h3 : m__law_greatest [.list RW] = .ok z) (hlen : F0.length < 16777216) :
    ∃ y : Sl, (sSeq (sSetN 5 (eNil))
      (sSeq (sFor (e1 rg1 (eCons (e2 addD (eVarB 4) (eC (.int 1))) (eNil))) (gSet 6)
      (sApp 5 (eCall m__law_least (eCons (e1 listD (eComp [7] (e1 rg2 (eCons (e2 addD (eVarB 4) (eC (.int 1))) (eCons (e2 addD (eVarB 2) (eC (.int 1))) (eNil)))) (gSet 7) (eTrue) (eCall m__law_mean (eCons (eVar 0) (eCons (eVar 1) (eCons (eVar 6) (eCons (eVar 7) (eNil)))))))) (eNil)))))
      (sFrz [5] (sApp 3 (eCall m__law_greatest (eCons (eVar 5) (eNil))))))) [.val bd, .val gd, .val (.int mi), .own F0, .val (.int ti), x5, x6, .un] = .nx [.val bd, .val gd, .val (.int mi), .own (F0 ++ [z]), .val (.int ti), .val (.list RW), y, .un] := by
  obtain ⟨y, h2⟩ := h2 x6
  exact ⟨y, by simp [h1, h2, h3, hlen]⟩
open K06M in
theorem law_smooth_ok {b : Bel} (hb : isB b = true) (sp : Nat → Q) (hG : ∀ t, t < b.length → Good (AA b) (RR b) b.length t (sp t).1 (sp t).2) : m__law_smooth [belD b, .list ((gl b).map frD)] = .ok (.list ((List.range b.length).map fun t => frD (lowQ (sp t)))) := by
  have hl := len_b hb
  let I : Nat → Ro → Prop := fun i ρ => ∃ (x y z : Sl), ρ = [.val (belD b), .val (.list ((gl b).map frD)), .val (.int (b.length : Int)), .own ((List.range i).map fun t => frD (lowQ (sp t))), x, y, z, .un]
  obtain ⟨ρ', h1, x, y, z, rfl⟩ := forF_inv (g := gSet 4) (b := sSeq (sSetN 5 (eNil))
      (sSeq (sFor (e1 rg1 (eCons (e2 addD (eVarB 4) (eC (.int 1))) (eNil))) (gSet 6)
      (sApp 5 (eCall m__law_least (eCons (e1 listD (eComp [7] (e1 rg2 (eCons (e2 addD (eVarB 4) (eC (.int 1))) (eCons (e2 addD (eVarB 2) (eC (.int 1))) (eNil)))) (gSet 7) (eTrue) (eCall m__law_mean (eCons (eVar 0) (eCons (eVar 1) (eCons (eVar 6) (eCons (eVar 7) (eNil)))))))) (eNil)))))
      (sFrz [5] (sApp 3 (eCall m__law_greatest (eCons (eVar 5) (eNil))))))) I (rngL 0 b.length) 0 [.val (belD b), .val (.list ((gl b).map frD)), .val (.int (b.length : Int)), .own [], .un, .un, .un, .un] ⟨_, _, _, rfl⟩ (by
    rintro t d ρ hj hI
    rw [Nat.zero_add] at hI ⊢
    obtain ⟨x, y, z, rfl⟩ := hI
    obtain ⟨ht, rfl⟩ := rngL_get hj
    rw [Int.zero_add]
    obtain ⟨lq, hlq⟩ := exists_lq hb ht
    have hrows : ∀ x6 : Sl, ∃ y : Sl, forF (gSet 6) (sApp 5 (eCall m__law_least (eCons (e1 listD (eComp [7] (e1 rg2 (eCons (e2 addD (eVarB 4) (eC (.int 1))) (eCons (e2 addD (eVarB 2) (eC (.int 1))) (eNil)))) (gSet 7) (eTrue) (eCall m__law_mean (eCons (eVar 0) (eCons (eVar 1) (eCons (eVar 6) (eCons (eVar 7) (eNil)))))))) (eNil)))) (rngL 0 (t + 1)) [.val (belD b), .val (.list ((gl b).map frD)), .val (.int (b.length : Int)), .own ((List.range t).map fun t => frD (lowQ (sp t))), .val (.int (t : Int)), .own [], x6, .un] =
        .nx [.val (belD b), .val (.list ((gl b).map frD)), .val (.int (b.length : Int)), .own ((List.range t).map fun t => frD (lowQ (sp t))), .val (.int (t : Int)), .own (((List.range (t + 1)).map lq).map fun p => frD (lowQ p)), y, .un] := by
      intro x6
      let J : Nat → Ro → Prop := fun i ρ => ∃ (y : Sl), ρ = [.val (belD b), .val (.list ((gl b).map frD)), .val (.int (b.length : Int)), .own ((List.range t).map fun t => frD (lowQ (sp t))), .val (.int (t : Int)), .own (((List.range i).map lq).map fun p => frD (lowQ p)), y, .un]
      obtain ⟨ρ2, g1, y, rfl⟩ := forF_inv (g := gSet 6) (b := sApp 5 (eCall m__law_least (eCons (e1 listD (eComp [7] (e1 rg2 (eCons (e2 addD (eVarB 4) (eC (.int 1))) (eCons (e2 addD (eVarB 2) (eC (.int 1))) (eNil)))) (gSet 7) (eTrue) (eCall m__law_mean (eCons (eVar 0) (eCons (eVar 1) (eCons (eVar 6) (eCons (eVar 7) (eNil)))))))) (eNil)))) J (rngL 0 (t + 1)) 0 [.val (belD b), .val (.list ((gl b).map frD)), .val (.int (b.length : Int)), .own ((List.range t).map fun t => frD (lowQ (sp t))), .val (.int (t : Int)), .own [], x6, .un] ⟨_, rfl⟩ (by
        rintro f d ρ hj hJ
        rw [Nat.zero_add] at hJ ⊢
        obtain ⟨y, rfl⟩ := hJ
        obtain ⟨hf, rfl⟩ := rngL_get hj
        rw [Int.zero_add]
        have hr : rg2 [.int ((t : Int) + 1), .int ((b.length : Int) + 1)] = _ := rng2 (i := t + 1) (j := b.length + 1) (by omega) (by omega)
        have he := rows_eval (belD b) (.list ((gl b).map frD)) (b.length : Int) (t : Int) (f : Int) (.own ((List.range t).map fun t => frD (lowQ (sp t)))) .un (((List.range f).map lq).map fun p => frD (lowQ p)) _ _ _ hr (smooth_c hb (by omega) ht) (hlq f (by omega)).2.2 (by simp; omega)
        refine ⟨_, _, rfl, .inl he, .val (.int (f : Int)), ?_⟩
        rw [List.range_succ, List.map_append, List.map_append]
        rfl)
      rw [rngL_length, Nat.zero_add] at g1
      exact ⟨y, g1⟩
    have hlenR : ((List.range (t + 1)).map lq).length = t + 1 := by simp
    obtain ⟨q, hq, hqg, hgr⟩ := greatest_ok (l := (List.range (t + 1)).map lq) (fun p hp => by
      obtain ⟨f, hf, rfl⟩ := List.mem_map.mp hp
      have := List.mem_range.mp hf
      exact ml_ok hb (by omega) _ (hlq f (by omega)).1) (by omega)
    obtain ⟨f, hf, rfl⟩ := List.mem_map.mp hq
    have hf' := List.mem_range.mp hf
    have hv := value_eq hb (hG t ht) (fun f hf => ⟨(hlq f hf).1, (hlq f hf).2.1⟩) (q := lq f) ⟨f, by omega, rfl⟩ (fun g hg => hqg _ (List.mem_map.mpr ⟨g, List.mem_range.mpr (by omega), rfl⟩))
    have hr1 : rg1 [.int ((t : Int) + 1)] = some (rngL 0 (t + 1)) := by
      rw [rg1_int _ (by omega) (by omega)]
      rfl
    obtain ⟨y', he⟩ := turn_eval (belD b) (.list ((gl b).map frD)) (b.length : Int) (t : Int) y z ((List.range t).map fun t => frD (lowQ (sp t))) _ _ _ hr1 hrows hgr (by simp; omega)
    refine ⟨_, _, rfl, .inl he, .val (.int (t : Int)), .val (.list (((List.range (t + 1)).map lq).map fun p => frD (lowQ p))), y', ?_⟩
    simp only [List.range_succ, List.map_append, hv.2]
    rfl)
  rw [rngL_length, Nat.zero_add] at h1
  have hr : rg1 [.int (b.length : Int)] = some (rngL 0 b.length) := by rw [rg1_int _ (by omega) (by omega)]; simp
  have hlen : lenD [belD b] = some (.int (b.length : Int)) := by simp
  generalize belD b = bd at *
  generalize PyData.list ((gl b).map frD) = gd at *
  generalize (b.length : Int) = mi at *
  simp [m__law_smooth, hlen, hr, h1]
end K06
/-! K06V: the program's smooth gains: pools of neighbours. -/
namespace K06
open PySem PySem.Spec PyProof.Rows L2 Pf LawC K06M
abbrev gD (p : Pool) : PyData := .tuple [frD (p.P, 1), .int p.W, .int (p.c : Int)]
def OkP (p : Pool) : Prop := p.P.natAbs < 2 ^ 30 ∧ 0 < p.W ∧ p.W < 2 ^ 30
theorem OkP.q {p : Pool} (h : OkP p) : OkQ (p.P, p.W) := h
theorem mean_of_ok {p : Pool} (h : OkP p) : m_mean_of [gD p] = .ok (frD (lowQ (p.P, p.W))) := by
  have hl := plain_ok p.P p.W h.2.1 (Int.lt_trans h.2.2 (by decide))
  have o : okMul 1 p.W = true := okMul_of (k := 1) (l := 30) (by decide) (by have := h.2; omega)
  simp [m_mean_of, mulD_int o, e_plain, hl]
  exact ⟨rfl, rfl⟩
theorem is_more_ok {p q : Q} (hp : OkQ p) (hq : OkQ q) : m_is_more [frD (lowQ p), frD (lowQ q)] = .ok (.bool (decide (q.1 * p.2 < p.1 * q.2))) := by
  have a1 := low_den (n := p.1) hp.2.1
  have a2 := low_den (n := q.1) hq.2.1
  have b1 := low_num (n := p.1) hp.2.1
  have b2 := low_num (n := q.1) hq.2.1
  have hl := low_lt (n := q.1) (n' := p.1) hq.2.1 hp.2.1
  have o1 : okMul (lowQ p).1 (lowQ q).2 = true := okMul_of (k := 30) (l := 30) (Nat.lt_of_le_of_lt b1 hp.1) (by have := hq.2.2; show (low q.1 q.2).2.natAbs < _; omega)
  have o2 : okMul (lowQ q).1 (lowQ p).2 = true := okMul_of (k := 30) (l := 30) (Nat.lt_of_le_of_lt b2 hq.1) (by have := hp.2.2; show (low p.1 p.2).2.natAbs < _; omega)
  have e : decide ((lowQ q).1 * (lowQ p).2 < (lowQ p).1 * (lowQ q).2) = decide (q.1 * p.2 < p.1 * q.2) := by
    simp only [decide_eq_decide]
    exact hl
  generalize lowQ p = u at *
  generalize lowQ q = v at *
  simp [m_is_more, mulD_int o1, mulD_int o2]
  exact decide_eq_decide.mp e
/-- two pools become one -/
def join (p q : Pool) : Pool := ⟨p.P + q.P, p.W + q.W, p.c + q.c⟩
def wc : Ro → Res Bool := eAnd (eTb (e2 gtD (e1 lenD (eCons (eVarB 1) eNil)) (eC (.int 1)))) (eTb (eCall m_is_more (eCons (eCall m_mean_of (eCons (e2 ixD (eVarB 1) (e1 negD (eC (.int 2)))) (eNil))) (eCons (eCall m_mean_of (eCons (e2 ixD (eVarB 1) (e1 negD (eC (.int 1)))) (eNil))) (eNil)))))
def wb : Ro → Out := (sSeq (sAsg (gUnp (gsCons (gSet 6) (gsCons (gSet 7) (gsNil)))) (eSl slT (eVarB 1) (e1 asI (e1 negD (eC (.int 2)))) (eNone)))
      (sSeq (sSet 8 (eCall m_plain (eCons (e2 addD (e2 mulD (e2 ixD (e2 ixD (eVarB 6) (eC (.int 0))) (eC (.int 0))) (e2 ixD (e2 ixD (eVarB 7) (eC (.int 0))) (eC (.int 1)))) (e2 mulD (e2 ixD (e2 ixD (eVarB 7) (eC (.int 0))) (eC (.int 0))) (e2 ixD (e2 ixD (eVarB 6) (eC (.int 0))) (eC (.int 1))))) (eCons (e2 mulD (e2 ixD (e2 ixD (eVarB 6) (eC (.int 0))) (eC (.int 1))) (e2 ixD (e2 ixD (eVarB 7) (eC (.int 0))) (eC (.int 1)))) (eNil)))))
      (sSetN 1 (e1 lenOk (eStar (eSl slT (eVarB 1) (eNone) (e1 asI (e1 negD (eC (.int 2))))) (eCons (e1 tupD (eCons (eVar 8) (eCons (e2 addD (e2 ixD (eVarB 6) (eC (.int 1))) (e2 ixD (eVarB 7) (eC (.int 1)))) (eCons (e2 addD (e2 ixD (eVarB 6) (eC (.int 2))) (e2 ixD (eVarB 7) (eC (.int 2)))) (eNil))))) (eNil)))))))
theorem wc_two (bd : PyData) (x2 x3 x4 x5 x6 x7 x8 x9 : Sl) (L : List PyData) {p q : Pool} (hp : OkP p) (hq : OkP q) : wc [.val bd, .own (L ++ [gD p, gD q]), x2, x3, x4, x5, x6, x7, x8, x9] = .ok (decide (q.P * p.W < p.P * q.W)) := by
  have h1 := mean_of_ok hp
  have h2 := mean_of_ok hq
  have h3 := is_more_ok hp.q hq.q
  have a1 := atI_m2 L (gD p) (gD q)
  have a2 := atI_m1' L (gD p) (gD q)
  have hlen : (1 : Int) < ((L ++ [gD p, gD q]).length : Int) := by simp; omega
  generalize lowQ (p.P, p.W) = u at *
  generalize lowQ (q.P, q.W) = v at *
  generalize gD p = P at *
  generalize gD q = R at *
  generalize L ++ [P, R] = M at *
  simp [wc, hlen, a1, a2, h1, h2, h3]
theorem wc_one (bd : PyData) (x2 x3 x4 x5 x6 x7 x8 x9 : Sl) (L : List PyData) (hL : L.length ≤ 1) : wc [.val bd, .own L, x2, x3, x4, x5, x6, x7, x8, x9] = .ok false := by
  have hlen : ¬ (1 : Int) < (L.length : Int) := by omega
  simp [wc, hlen]
theorem wb_two (bd : PyData) (x2 x3 x4 x5 x6 x7 x8 x9 : Sl) (L : List PyData) {p q : Pool} (hp : OkP p) (hq : OkP q) (hl : L.length ≤ 1000) : wb [.val bd, .own (L ++ [gD p, gD q]), x2, x3, x4, x5, x6, x7, x8, x9] = .nx [.val bd, .own (L ++ [gD (join p q)]), x2, x3, x4, x5, .val (gD p), .val (gD q), .val (frD (p.P + q.P, 1)), x9] := by
  have h1 := plain_ok (p.P + q.P) 1 (by decide) (by decide)
  rw [low_one] at h1
  have c1 := cut_m2 L (gD p) (gD q)
  have c2 := cut_to_m2 L (gD p) (gD q)
  have o1 : okMul p.P 1 = true := okMul_of (k := 30) (l := 1) hp.1 (by decide)
  have o2 : okMul q.P 1 = true := okMul_of (k := 30) (l := 1) hq.1 (by decide)
  have o3 : okMul 1 1 = true := by decide
  have hlo : ∀ z : PyData, lenOk (L ++ [z]) = some (L ++ [z]) := fun z => by unfold lenOk; rw [if_pos (by simp; omega)]
  have e : gD (join p q) = .tuple [frD (p.P + q.P, 1), .int (p.W + q.W), .int ((p.c : Int) + (q.c : Int))] := by
    show PyData.tuple [_, _, .int ((p.c + q.c : Nat) : Int)] = _
    rw [Int.natCast_add]
    rfl
  rw [e]
  generalize L ++ [gD p, gD q] = M at *
  simp [wb, c1, c2, mulD_int o1, mulD_int o2, mulD_int o3, e_plain, h1, hlo]
theorem pools_loop {A R : Nat → Int} (hA : ∀ i j, i < j → A j < A i) (hok : ∀ p : Pool, (∃ i j, i < j ∧ p.P = R i - R j ∧ p.W = A i - A j ∧ j ≤ 10) → OkP p) {m : Nat} (hm : m ≤ 10) (bd : PyData) (x2 x3 x4 x5 x9 : Sl) : ∀ (n : Nat) (G : List Pool) (p : Pool) (x6 x7 x8 : Sl), G.length < n → Row A R 0 m (G ++ [p]) → G.Pairwise Le →
    ∃ (G' : List Pool) (y6 y7 y8 : Sl), whF wc wb n [.val bd, .own ((G ++ [p]).map gD), x2, x3, x4, x5, x6, x7, x8, x9] = .nx [.val bd, .own (G'.map gD), x2, x3, x4, x5, y6, y7, y8, x9] ∧ Row A R 0 m G' ∧ G'.Pairwise Le := by
  intro n
  induction n with
  | zero => intro G p x6 x7 x8 h; omega
  | succ n ih =>
    intro G p x6 x7 x8 h hR hP
    have hlenR : ∀ {G : List Pool} {i j : Nat}, Row A R i j G → G.length ≤ j - i := by
      intro G
      induction G with
      | nil => intro i j h; simp
      | cons q G ih2 =>
        intro i j h
        obtain ⟨g1, _, _, _, g5⟩ := h
        have := ih2 g5
        have := Row.le g5
        simp
        omega
    rcases List.eq_nil_or_concat G with e | ⟨H, q, e⟩
    · subst e
      refine ⟨[p], x6, x7, x8, ?_, hR, List.pairwise_singleton _ _⟩
      rw [whF, wc_one _ _ _ _ _ _ _ _ _ _ (by simp)]
      simp
    · subst e
      have hR' := hR
      rw [List.concat_eq_append, List.append_assoc] at hR'
      obtain ⟨i, r1, r2⟩ := Row.split hR'
      obtain ⟨g1, g2, g3, g4, k1, k2, k3, k4, k5⟩ := r2
      have k5' : i + q.c + p.c = m := k5
      have hq : OkP q := hok q ⟨i, i + q.c, by omega, g2, g3, by omega⟩
      have hp : OkP p := hok p ⟨i + q.c, i + q.c + p.c, by omega, k2, k3, by omega⟩
      have hHl := hlenR r1
      have em : ((H.concat q ++ [p]).map gD) = H.map gD ++ [gD q, gD p] := by simp
      rw [em, whF, wc_two _ _ _ _ _ _ _ _ _ _ hq hp]
      rw [List.concat_eq_append] at hP h
      have hPH := (List.pairwise_append.mp hP).1
      have hPq := (List.pairwise_append.mp hP).2.2
      by_cases c : p.P * q.W < q.P * p.W
      · rw [decide_eq_true c]
        simp only [Res.out_ok, if_true]
        rw [wb_two _ _ _ _ _ _ _ _ _ _ hq hp (by simp; omega)]
        have hj : Row A R 0 m (H ++ [join q p]) := by
          refine Row.append r1 ⟨by show 0 < q.c + p.c; omega, ?_, ?_, ?_, ?_⟩
          · show q.P + p.P = R i - R (i + (q.c + p.c)); rw [g2, k2, Nat.add_assoc]; omega
          · show q.W + p.W = A i - A (i + (q.c + p.c)); rw [g3, k3, Nat.add_assoc]; omega
          · show Pre A R i (i + (q.c + p.c))
            rw [← Nat.add_assoc]
            refine Pre.merge (fun a d _ had _ => ?_) (hA _ _ (by omega)) (hA _ _ (by omega)) (by omega) (by omega) g4 k4 ?_
            · by_cases e : a = d
              · rw [e]; exact Int.le_refl _
              · exact Int.le_of_lt (hA a d (by omega))
            · rw [← g2, ← g3, ← k2, ← k3]; omega
          · show i + (q.c + p.c) = m; omega
        have em2 : H.map gD ++ [gD (join q p)] = (H ++ [join q p]).map gD := by simp
        rw [em2]
        obtain ⟨G', y6, y7, y8, z1, z2, z3⟩ := ih H (join q p) (.val (gD q)) (.val (gD p)) (.val (frD (q.P + p.P, 1))) (by simp at h; omega) hj hPH
        exact ⟨G', y6, y7, y8, z1, z2, z3⟩
      · rw [decide_eq_false c]
        simp only [Res.out_ok, Bool.false_eq_true, if_false]
        refine ⟨H ++ [q] ++ [p], x6, x7, x8, by simp, by simpa using hR, ?_⟩
        have hW := Row.W_pos hA hR
        have lqp : Le q p := by unfold Le; omega
        refine List.pairwise_append.mpr ⟨hP, List.pairwise_singleton _ _, fun a ha z hz => ?_⟩
        rw [List.mem_singleton.mp hz]
        rcases List.mem_append.mp ha with ha | ha
        · exact Le.trans (hW a (by simp [ha])) hq.2.1 hp.2.1 (hPq a ha q (List.mem_singleton.mpr rfl)) lqp
        · rw [List.mem_singleton.mp ha]; exact lqp
theorem compF2_all {ι : Type} (toD : ι → PyData) {g : PyData → Ro → Option Ro} {fi1 : Ro → Res (List PyData)} {own1 : List Nat} {g1 : PyData → Ro → Option Ro} {f : Ro → Res PyData} {ρ : Ro} (h : ι → List PyData) : ∀ xs : List ι,
    (∀ x ∈ xs, ∃ ρ1 es, g (toD x) ρ = some ρ1 ∧ fi1 ρ1 = .ok es ∧ compF g1 eTrue f (wipeR ρ1 own1) es = some (h x)) → compF2 g eTrue fi1 own1 g1 eTrue f ρ (xs.map toD) = some (xs.flatMap h)
  | [], _ => rfl
  | x :: xs, hx => by
    obtain ⟨ρ1, es, h1, h2, h3⟩ := hx x (List.mem_cons_self ..)
    have ih := compF2_all toD h xs fun y hy => hx y (List.mem_cons_of_mem _ hy)
    rw [List.map_cons]
    unfold compF2
    rw [h1]
    simp [h2, h3, ih]
end K06
/-! K06W: the program's smooth gains, the whole. -/
namespace K06
open PySem PySem.Spec PyProof.Rows L2 Pf LawC K06M
theorem okP_of {b : Bel} (hb : isB b = true) (p : Pool) (h : ∃ i j, i < j ∧ p.P = RR b i - RR b j ∧ p.W = AA b i - AA b j ∧ j ≤ 10) : OkP p := by
  obtain ⟨i, j, h1, h2, h3, h4⟩ := h
  have a1 := RR_b hb i
  have a2 := RR_b hb j
  have a3 := AA_dec hb i j h1
  have a4 := S_b' hb i
  have a5 := S_b' hb j
  have hl := len_b hb
  refine ⟨by rw [h2]; omega, by rw [h3]; omega, ?_⟩
  rw [h3]
  unfold AA
  omega
theorem body_eval (bd : PyData) (L : List PyData) (n d w : Int) (x6 x7 x8 x9 : Sl) (N : Int) (hL : L.length < 1000) (o : okMul n w = true) (hp : m_plain [.int (n * w), .int d] = .ok (frD (N, 1))) (h5 : PyData) (x4 : Sl) (o' : Out)
    (hw : whF wc wb 100000 [.val bd, .own (L ++ [.tuple [frD (N, 1), .int w, .int 1]]), .val (.int n), .val (.int d), x4, .val (.int w), x6, x7, x8, x9] = o') :
    (sSeq (sApp 1 (e1 tupD (eCons (eCall m_plain (eCons (e2 mulD (eVarB 2) (eVarB 5)) (eCons (eVar 3) (eNil)))) (eCons (eVar 5) (eCons (eC (.int 1)) (eNil))))))
      (sWhile 100000 wc wb)) [.val bd, .own L, .val (.int n), .val (.int d), x4, .val (.int w), x6, x7, x8, x9] = o' := by
  have hl : L.length < 16777216 := by omega
  simp [mulD_int o, hp, hl, hw]
theorem mean_comp (bd : PyData) (x1 x2 x3 x4 x5 x6 x7 x8 : Sl) {p : Pool} (hp : OkP p) : compF (gSet 4) eTrue (eCall m_mean_of (eCons (eVar 9) (eNil))) (wipeR [.val bd, x1, x2, x3, x4, x5, x6, x7, x8, .val (gD p)] [4]) (rngL 0 p.c) = some (List.replicate p.c (frD (lowQ (p.P, p.W)))) := by
  have hm := mean_of_ok hp
  rw [rngL_0]
  have := compF_all (fun i : Nat => PyData.int (i : Int)) (g := gSet 4) (f := eCall m_mean_of (eCons (eVar 9) (eNil))) (ρ := wipeR [.val bd, x1, x2, x3, x4, x5, x6, x7, x8, .val (gD p)] [4]) (fun _ => frD (lowQ (p.P, p.W))) (List.range p.c) fun i _ => ⟨[.val bd, x1, x2, x3, .val (.int i), x5, x6, x7, x8, .val (gD p)], rfl, by
    generalize gD p = z at *
    simp [hm]⟩
  rw [this, List.map_const', List.length_range]
theorem ret_eval (bd : PyData) (L Z : List PyData) (x2 x3 x4 x5 x6 x7 x8 x9 : Sl) (hc : compF2 (gSet 9) eTrue (e1 rg1 (eCons (e2 ixD (eVarB 9) (eC (.int 2))) (eNil))) [4] (gSet 4) eTrue (eCall m_mean_of (eCons (eVar 9) (eNil))) [.val bd, .own L, x2, x3, .un, x5, x6, x7, x8, .un] L = some Z) (hz : Z.length ≤ 1000) :
    (sRet (e1 listD (eComp2 [9, 4] (e1 itL (eVarB 1)) (gSet 9) (eTrue) (e1 rg1 (eCons (e2 ixD (eVarB 9) (eC (.int 2))) (eNil))) [4] (gSet 4) (eTrue) (eCall m_mean_of (eCons (eVar 9) (eNil)))))) [.val bd, .own L, x2, x3, x4, x5, x6, x7, x8, x9] = .ret (.list Z) := by
  have hlo : lenOk Z = some Z := by unfold lenOk; rw [if_pos (by omega)]
  unfold eComp2
  simp [hc, hlo]
theorem unp_len {A R : Nat → Int} : ∀ {G : List Pool} {i j : Nat}, Row A R i j G → (unp G).length = j - i
  | [], i, j, h => by unfold K06M.Row at h; subst h; simp [unp]
  | p :: G, i, j, h => by
    obtain ⟨g1, _, _, _, g5⟩ := h
    have := unp_len g5
    have := Row.le g5
    rw [unp_cons]
    simp
    omega
theorem smooth_in_ok {b : Bel} (hb : isB b = true) : ∃ G : List Pool, Row (AA b) (RR b) 0 b.length G ∧ G.Pairwise Le ∧ m_smooth_in [belD b] = .ok (.list ((unp G).map fun p => frD (lowQ p))) := by
  have hl := len_b hb
  have hA := AA_dec hb
  let I : Nat → Ro → Prop := fun i ρ => ∃ (G : List Pool) (x2 x3 x4 x5 x6 x7 x8 : Sl), ρ = [.val (belD b), .own (G.map gD), x2, x3, x4, x5, x6, x7, x8, .un] ∧ Row (AA b) (RR b) 0 i G ∧ G.Pairwise Le
  have hgl : (gl b).length = b.length := by simp [gl]
  have hz : zipL [.list ((gl b).map frD), belD b] = some (((gl b).map frD).zip (b.map frD) |>.map fun p => .tuple [p.1, p.2]) := zipL_list _ _ (by simp [gl]; omega)
  obtain ⟨ρ', h1, G, x2, x3, x4, x5, x6, x7, x8, rfl, hR, hP⟩ := forF_inv (g := gUnp (gsCons (gUnp (gsCons (gSet 2) (gsCons (gSet 3) (gsNil)))) (gsCons (gUnp (gsCons (gSet 4) (gsCons (gSet 5) (gsNil)))) (gsNil)))) (b := sSeq (sApp 1 (e1 tupD (eCons (eCall m_plain (eCons (e2 mulD (eVarB 2) (eVarB 5)) (eCons (eVar 3) (eNil)))) (eCons (eVar 5) (eCons (eC (.int 1)) (eNil))))))
      (sWhile 100000 wc wb)) I (((gl b).map frD).zip (b.map frD) |>.map fun p => .tuple [p.1, p.2]) 0 [.val (belD b), .own [], .un, .un, .un, .un, .un, .un, .un, .un] ⟨[], _, _, _, _, _, _, _, rfl, rfl, List.Pairwise.nil⟩ (by
    rintro t d ρ hj hI
    rw [Nat.zero_add] at hI ⊢
    obtain ⟨G, x2, x3, x4, x5, x6, x7, x8, rfl, hR, hP⟩ := hI
    have ht : t < b.length := by
      have := (List.getElem?_eq_some_iff.mp hj).1
      simp at this
      omega
    have hd : d = .tuple [frD (gn b t), frD (V b t, Wt b t)] := by
      rw [List.getElem?_map] at hj
      obtain ⟨pr, hpr, rfl⟩ := Option.map_eq_some_iff.mp hj
      obtain ⟨e1, e2⟩ := List.getElem?_zip_eq_some.mp hpr
      rw [at_gl ht] at e1
      rw [at_b ht] at e2
      rw [← Option.some.inj e1, ← Option.some.inj e2]
    subst hd
    have hw := W_b hb ht
    have hr1 := RR_b hb t
    have hr2 := RR_b hb (t + 1)
    have hp : 0 < Wt b t := by omega
    have hden := low_den (n := RR b t - RR b (t + 1)) hp
    have hnum := low_num (n := RR b t - RR b (t + 1)) hp
    have hval := low_val (n := RR b t - RR b (t + 1)) hp
    have o : okMul (gn b t).1 (Wt b t) = true := okMul_of (k := 21) (l := 7) (by show (low _ _).1.natAbs < 2 ^ 21; omega) (by omega)
    have hpl : m_plain [.int ((gn b t).1 * Wt b t), .int (gn b t).2] = .ok (frD (RR b t - RR b (t + 1), 1)) := by
      have hpo := plain_ok ((gn b t).1 * Wt b t) (gn b t).2 (show 0 < (gn b t).2 from hden.1) (by show (low _ _).2 < 2 ^ 200; omega)
      rw [e_plain, hpo]
      have : low ((gn b t).1 * Wt b t) (gn b t).2 = low (RR b t - RR b (t + 1)) 1 := by
        refine low_eq hden.1 (by decide) ?_
        show (low _ _).1 * Wt b t * 1 = (RR b t - RR b (t + 1)) * (low _ _).2
        rw [Int.mul_one, hval]
      rw [this, low_one]
    let q : Pool := ⟨RR b t - RR b (t + 1), Wt b t, 1⟩
    have hq : Row (AA b) (RR b) 0 (t + 1) (G ++ [q]) := by
      refine Row.append hR ⟨by show 0 < 1; decide, rfl, ?_, Pre.one t, rfl⟩
      show Wt b t = AA b t - AA b (t + 1)
      rw [AA_eq hb (by omega), AA_eq hb (by omega), S_step ht]
      omega
    have hGl : G.length ≤ t := by
      have hlenR : ∀ {G : List Pool} {i j : Nat}, Row (AA b) (RR b) i j G → G.length ≤ j - i := by
        intro G
        induction G with
        | nil => intro i j h; simp
        | cons q G ih2 =>
          intro i j h
          obtain ⟨g1, _, _, _, g5⟩ := h
          have := ih2 g5
          have := Row.le g5
          simp
          omega
      exact hlenR hR
    obtain ⟨G', y6, y7, y8, z1, z2, z3⟩ := pools_loop hA (okP_of hb) (m := t + 1) (by omega) (belD b) (.val (.int (gn b t).1)) (.val (.int (gn b t).2)) (.val (.int (V b t))) (.val (.int (Wt b t))) .un 100000 G q x6 x7 x8 (by omega) hq hP
    have eG : (G ++ [q]).map gD = G.map gD ++ [.tuple [frD (RR b t - RR b (t + 1), 1), .int (Wt b t), .int 1]] := by
      rw [List.map_append]
      rfl
    rw [eG] at z1
    exact ⟨[.val (belD b), .own (G.map gD), .val (.int (gn b t).1), .val (.int (gn b t).2), .val (.int (V b t)), .val (.int (Wt b t)), x6, x7, x8, .un], _, rfl, .inl (body_eval (belD b) (G.map gD) (gn b t).1 (gn b t).2 (Wt b t) x6 x7 x8 .un _ (by simp; omega) o hpl .none (.val (.int (V b t))) _ z1), G', _, _, _, _, _, _, _, rfl, z2, z3⟩)
  have hlz : (((gl b).map frD).zip (b.map frD) |>.map fun p => PyData.tuple [p.1, p.2]).length = b.length := by simp [gl]
  rw [hlz, Nat.zero_add] at hR
  refine ⟨G, hR, hP, ?_⟩
  have hok : ∀ p ∈ G, OkP p := by
    have key : ∀ {G : List Pool} {i : Nat}, Row (AA b) (RR b) i b.length G → ∀ p ∈ G, OkP p := by
      intro G
      induction G with
      | nil => intro i _ p hp; cases hp
      | cons q G ih =>
        intro i h p hp
        obtain ⟨g1, g2, g3, _, g5⟩ := h
        have := Row.le g5
        rcases List.mem_cons.mp hp with rfl | hp
        · exact okP_of hb _ ⟨i, i + p.c, by omega, g2, g3, by omega⟩
        · exact ih g5 p hp
    exact key hR
  have hcnt : ∀ p ∈ G, p.c ≤ 1000 := by
    intro p hp
    have key : ∀ {G : List Pool} {i j : Nat}, Row (AA b) (RR b) i j G → ∀ p ∈ G, p.c ≤ j := by
      intro G
      induction G with
      | nil => intro i j _ p hp; cases hp
      | cons q G ih =>
        intro i j h p hp
        obtain ⟨g1, g2, g3, _, g5⟩ := h
        have := Row.le g5
        rcases List.mem_cons.mp hp with rfl | hp
        · omega
        · exact ih g5 p hp
    have := key hR p hp
    omega
  have hc : compF2 (gSet 9) eTrue (e1 rg1 (eCons (e2 ixD (eVarB 9) (eC (.int 2))) (eNil))) [4] (gSet 4) eTrue (eCall m_mean_of (eCons (eVar 9) (eNil))) [.val (belD b), .own (G.map gD), x2, x3, .un, x5, x6, x7, x8, .un] (G.map gD) = some (G.flatMap fun p => List.replicate p.c (frD (lowQ (p.P, p.W)))) := by
    refine compF2_all gD _ G fun p hp => ⟨[.val (belD b), .own (G.map gD), x2, x3, .un, x5, x6, x7, x8, .val (gD p)], rngL 0 p.c, rfl, ?_, mean_comp _ _ _ _ _ _ _ _ _ (hok p hp)⟩
    have hr : rg1 [.int (p.c : Int)] = some (rngL 0 p.c) := by rw [rg1_int _ (by omega) (by have := hcnt p hp; omega)]; simp
    have hx : ixD (gD p) (.int 2) = some (.int (p.c : Int)) := rfl
    generalize gD p = z at *
    simp [hx, hr]
  have hu : G.flatMap (fun p => List.replicate p.c (frD (lowQ (p.P, p.W)))) = (unp G).map fun p => frD (lowQ p) := by
    unfold unp
    rw [List.map_flatMap]
    congr 1
    funext p
    simp
  have hul := unp_len hR
  rw [hu] at hc
  have hre := ret_eval (belD b) (G.map gD) _ x2 x3 x4 x5 x6 x7 x8 .un hc (by simp; omega)
  have hg := gains_in_ok hb
  have e : m_smooth_in [belD b] = outR ((sSeq (sSetN 1 (eNil))
      (sSeq (sFor (e1 zipL (eCons (eCall m_gains_in (eCons (eVar 0) (eNil))) (eCons (eVar 0) (eNil)))) (gUnp (gsCons (gUnp (gsCons (gSet 2) (gsCons (gSet 3) (gsNil)))) (gsCons (gUnp (gsCons (gSet 4) (gsCons (gSet 5) (gsNil)))) (gsNil))))
      (sSeq (sApp 1 (e1 tupD (eCons (eCall m_plain (eCons (e2 mulD (eVarB 2) (eVarB 5)) (eCons (eVar 3) (eNil)))) (eCons (eVar 5) (eCons (eC (.int 1)) (eNil))))))
      (sWhile 100000 wc wb)))
      (sRet (e1 listD (eComp2 [9, 4] (e1 itL (eVarB 1)) (gSet 9) (eTrue) (e1 rg1 (eCons (e2 ixD (eVarB 9) (eC (.int 2))) (eNil))) [4] (gSet 4) (eTrue) (eCall m_mean_of (eCons (eVar 9) (eNil)))))))) [.val (belD b), .un, .un, .un, .un, .un, .un, .un, .un, .un]) := rfl
  rw [e]
  generalize belD b = bd at *
  generalize PyData.list ((gl b).map frD) = gd at *
  rw [sSeq_eq, sSetN_eq, eNil_eq, Res.out_ok, Out.seq_nx, sSeq_eq, sFor_eq]
  have hi : (e1 zipL (eCons (eCall m_gains_in (eCons (eVar 0) (eNil))) (eCons (eVar 0) (eNil)))) ([.val bd, .un, .un, .un, .un, .un, .un, .un, .un, .un].set 1 (.own [])) = .ok (((gl b).map frD).zip (b.map frD) |>.map fun p => .tuple [p.1, p.2]) := by
    simp [hg, hz]
  rw [hi, Res.out_ok]
  rw [show ([.val bd, .un, .un, .un, .un, .un, .un, .un, .un, .un] : Ro).set 1 (.own []) = [.val bd, .own [], .un, .un, .un, .un, .un, .un, .un, .un] from rfl, h1, Out.seq_nx, hre]
  rfl
end K06
/-! K06X: the greatest of data; the posted price. -/
namespace K06
open PySem PySem.Spec PyProof.Rows L2 Pf LawC K06M
theorem argBest_max {ι : Type} (lt : ι → ι → Prop) [∀ a b, Decidable (lt a b)] (ir : ∀ a, ¬ lt a a) (tr : ∀ a b c, ¬ lt a b → ¬ lt b c → ¬ lt a c) (as : ∀ a b, lt a b → ¬ lt b a) (x : Nat → ι) : ∀ k j, j ≤ k → ¬ lt (x (argBest (fun i j => decide (lt (x j) (x i))) k)) (x j)
  | 0, j, h => by
    have : j = 0 := by omega
    subst this
    exact ir _
  | k + 1, j, h => by
    have ih := argBest_max lt ir tr as x k
    show ¬ lt (x (if decide (lt (x (argBest (fun i j => decide (lt (x j) (x i))) k)) (x (k + 1))) = true then k + 1 else argBest (fun i j => decide (lt (x j) (x i))) k)) (x j)
    by_cases c : lt (x (argBest (fun i j => decide (lt (x j) (x i))) k)) (x (k + 1))
    · rw [if_pos (decide_eq_true c)]
      by_cases e : j = k + 1
      · rw [e]; exact ir _
      · exact tr _ _ _ (as _ _ c) (ih j (by omega))
    · rw [if_neg (by rw [decide_eq_false c]; decide)]
      by_cases e : j = k + 1
      · rw [e]; exact c
      · exact ih j (by omega)
theorem maxT_ok {ι : Type} (toD : ι → PyData) (lt : ι → ι → Prop) [∀ a b, Decidable (lt a b)] (hlt : ∀ a b, PySem.W.dataLt (toD a) (toD b) = decide (lt a b)) (ir : ∀ a, ¬ lt a a) (tr : ∀ a b c, ¬ lt a b → ¬ lt b c → ¬ lt a c) (as : ∀ a b, lt a b → ¬ lt b a)
    (al : ∀ a b, PySem.W.alike (toD a) (toD b) = true) (sh : ∀ a, SeqAt.shaped (toD a) = true ∧ isNo (toD a) = false) (l : List ι) (h0 : 0 < l.length) (h1 : l.length ≤ 1000) : ∃ q ∈ l, (∀ p ∈ l, ¬ lt q p) ∧ maxTD [.list (l.map toD)] = some (toD q) := by
  obtain ⟨d0, hd0⟩ : ∃ d, d ∈ l := ⟨l[0], List.getElem_mem _⟩
  let x : Nat → ι := fun i => l.getD i d0
  have hx : ∀ i, i < l.length → (l.map toD).getD i .none = toD (x i) := fun i hi => by
    simp only [x]
    rw [List.getD_eq_getElem?_getD, List.getD_eq_getElem?_getD, List.getElem?_map, List.getElem?_eq_getElem hi]
    rfl
  have hb : ∀ k, k < l.length → argBest (fun i j => PySem.W.dataLt ((l.map toD).getD j .none) ((l.map toD).getD i .none)) k = argBest (fun i j => decide (lt (x j) (x i))) k := by
    intro k
    induction k with
    | zero => intro _; rfl
    | succ k ih =>
      intro hk
      have h := ih (by omega)
      have hle := argBest_le (fun i j => decide (lt (x j) (x i))) k
      have this : ∀ (c d : Bool), c = d → (if c = true then k + 1 else argBest (fun i j => decide (lt (x j) (x i))) k) = (if d = true then k + 1 else argBest (fun i j => decide (lt (x j) (x i))) k) := by
        intro c d h
        rw [h]
      show (if _ then _ else _) = (if _ then _ else _)
      rw [h]
      exact this _ _ (by dsimp only; rw [hx _ (by omega), hx _ hk, hlt])
  have hbest := argBest_max lt ir tr as x (l.length - 1)
  have hle := argBest_le (fun i j => decide (lt (x j) (x i))) (l.length - 1)
  have hok : okCmp (l.map toD) = true := by
    unfold okCmp
    rw [List.all_eq_true]
    intro a ha
    obtain ⟨p, hp, rfl⟩ := List.mem_map.mp ha
    simp only [Bool.and_eq_true, Bool.not_eq_true', List.all_eq_true]
    refine ⟨⟨fun b hb => ?_, (sh p).1⟩, (sh p).2⟩
    obtain ⟨q, hq, rfl⟩ := List.mem_map.mp hb
    exact al p q
  have hm : maxTD [.list (l.map toD)] = (l.map toD)[argBest (fun i j => decide (lt (x j) (x i))) (l.length - 1)]? := by
    show (if okCmp (l.map toD) = true ∧ (l.map toD).length ≤ 16777216 then (l.map toD)[argBest (fun i j => PySem.W.dataLt ((l.map toD).getD j .none) ((l.map toD).getD i .none)) ((l.map toD).length - 1)]? else none) = _
    rw [if_pos ⟨hok, by simp; omega⟩, List.length_map, hb _ (by omega)]
  generalize argBest (fun i j => decide (lt (x j) (x i))) (l.length - 1) = z at *
  have hz : z < l.length := by omega
  have exz : ∀ i (hi : i < l.length), x i = l[i] := fun i hi => by
    simp only [x]
    rw [List.getD_eq_getElem?_getD, List.getElem?_eq_getElem hi]
    rfl
  refine ⟨x z, by rw [exz z hz]; exact List.getElem_mem _, fun p hp => ?_, ?_⟩
  · obtain ⟨i, hi, rfl⟩ := List.mem_iff_getElem.mp hp
    have := hbest i (by omega)
    rw [exz i hi] at this
    exact this
  · rw [hm, List.getElem?_map, List.getElem?_eq_getElem hz, exz z hz]
    rfl
def ltP (p q : Q) : Prop := p.1 < q.1 ∨ (p.1 = q.1 ∧ p.2 < q.2)
instance (p q : Q) : Decidable (ltP p q) := by unfold ltP; infer_instance
theorem eqv_int (a c : Int) : PyData.eqv (.int a) (.int c) = decide (a = c) := by
  unfold PyData.eqv
  by_cases h : a = c
  · subst h; simp
  · simp [h]
theorem lt_pair (p q : Q) : PySem.W.dataLt (frD p) (frD q) = decide (ltP p q) := by
  rw [PySem.W.dataLt_tuple]
  have al : PySem.W.alike (PyData.int p.1) (.int q.1) = true := rfl
  have al2 : PySem.W.alike (PyData.int p.2) (.int q.2) = true := rfl
  by_cases h : p.1 = q.1
  · rw [PySem.W.dataLt_all_yes al (by rw [eqv_int]; exact decide_eq_true h)]
    by_cases h2 : p.2 = q.2
    · rw [PySem.W.dataLt_all_yes al2 (by rw [eqv_int]; exact decide_eq_true h2)]
      have : ¬ ltP p q := by unfold ltP; omega
      rw [decide_eq_false this]
      rfl
    · rw [PySem.W.dataLt_all_no al2 (by rw [eqv_int]; exact decide_eq_false h2), PySem.W.dataLt_int]
      simp only [decide_eq_decide]
      unfold ltP
      omega
  · rw [PySem.W.dataLt_all_no al (by rw [eqv_int]; exact decide_eq_false h), PySem.W.dataLt_int]
    simp only [decide_eq_decide]
    unfold ltP
    omega
theorem maxP_ok (l : List Q) (h0 : 0 < l.length) (h1 : l.length ≤ 1000) : ∃ q ∈ l, (∀ p ∈ l, ¬ ltP q p) ∧ maxTD [.list (l.map frD)] = some (frD q) :=
  maxT_ok frD ltP lt_pair (fun a => by unfold ltP; omega) (fun a b c => by unfold ltP; omega) (fun a b => by unfold ltP; omega) (fun _ _ => rfl) (fun _ => ⟨rfl, rfl⟩) l h0 h1
theorem maxI_ok (l : List Int) (h0 : 0 < l.length) (h1 : l.length ≤ 1000) : ∃ q ∈ l, (∀ p ∈ l, ¬ q < p) ∧ maxTD [.list (l.map .int)] = some (.int q) :=
  maxT_ok PyData.int (fun a b => a < b) PySem.W.dataLt_int (fun a => by omega) (fun a b c => by omega) (fun a b => by omega) (fun _ _ => rfl) (fun _ => ⟨rfl, rfl⟩) l h0 h1

/-! ### the posted price -/
def rw' (b : Bel) : List Q := (List.range b.length).map fun k => (RR b k, V b k)
theorem tail_comp (bd : PyData) {b : Bel} (k : Nat) (x1 x2 x7 : Sl) (z4 : Sl) : compF (gUnp (gsCons (gSet 5) (gsCons (gSet 6) (gsNil)))) (eTrue) (eVar 6) [.val bd, x1, x2, .val (.int (k : Int)), z4, .un, .un, x7] ((b.drop k).map frD) = some ((b.drop k).map fun p => .int p.2) :=
  weights_comp 5 6 (by decide) _ (by simp) (by simp)
theorem elt_eval (b : Bel) (bd : PyData) (hbd : bd = belD b) (k : Nat) (v : Int) (x1 x2 x6 x7 x5 : Sl) (o : okMul v (S b k) = true) : (e1 tupD (eCons (e2 mulD (eVarB 4) (e1 sumD (eCons (e1 listD (eComp [5, 6] (e1 itL (eSl slT (eVarB 0) (e1 asI (eVarB 3)) (eNone))) (gUnp (gsCons (gSet 5) (gsCons (gSet 6) (gsNil)))) (eTrue) (eVar 6))) eNil))) (eCons (eVar 4) (eNil)))) [.val bd, x1, x2, .val (.int (k : Int)), .val (.int v), x5, x6, x7] = .ok (frD (v * S b k, v)) := by
  have hc := tail_comp bd (b := b) k x1 x2 x7 (.val (.int v))
  have hs := sum_map (b.drop k) (·.2)
  have hS : ((b.drop k).map (fun p : Int × Int => p.2)).sum = S b k := rfl
  rw [hS] at hs
  have hcut : slT bd (some (k : Int)) none = some (.list ((b.drop k).map frD)) := by
    rw [hbd, slT_list, cut_from, List.map_drop]
  generalize (b.drop k).map frD = L at *
  generalize (b.drop k).map (fun p : Int × Int => PyData.int p.2) = L2 at *
  generalize S b k = s at *
  generalize (k : Int) = kk at *
  simp [hcut, hc, hs, mulD_int o]
theorem best_k {b : Bel} (hb : isB b = true) {q : Q} (hq : q ∈ rw' b) (hm : ∀ p ∈ rw' b, ¬ ltP q p) : ∃ k, k < b.length ∧ q = (RR b k, V b k) ∧ (∀ j, j ≤ b.length → RR b j ≤ RR b k) ∧ ∀ j, k < j → j < b.length → RR b j < RR b k := by
  obtain ⟨k, hk, rfl⟩ := List.mem_map.mp hq
  have hk := List.mem_range.mp hk
  have h : ∀ j, j < b.length → ¬ ltP (RR b k, V b k) (RR b j, V b j) := fun j hj => hm _ (List.mem_map.mpr ⟨j, List.mem_range.mpr hj, rfl⟩)
  refine ⟨k, hk, rfl, fun j hj => ?_, fun j h1 h2 => ?_⟩
  · by_cases e : j < b.length
    · have := h j e
      unfold ltP at this
      simp only at this
      omega
    · have : RR b j = 0 := by unfold RR; rw [S_zero (by omega)]; omega
      rw [this]
      exact (RR_b hb k).1
  · have := h j h2
    have hv := V_lt hb h1 h2
    unfold ltP at this
    simp only at this
    omega
theorem worths_comp (bd : PyData) {b : Bel} (r : Int) (x3 x4 x5 x6 x7 : Sl) (x1 : Sl) : compF (gUnp (gsCons (gSet 7) (gsCons (gSet 4) (gsNil)))) (eTb (e2 eqD (eVarB 7) (eVarB 2))) (eVar 4) [.val bd, x1, .val (.int r), x3, x4, x5, x6, x7] ((rw' b).map frD) = some (((rw' b).filter fun p => decide (p.1 = r)).map fun p => .int p.2) := by
  refine compF_map frD _ _ (rw' b) fun p hp => ⟨[.val bd, x1, .val (.int r), x3, .val (.int p.2), x5, x6, .val (.int p.1)], rfl, ?_, fun _ => by simp⟩
  have he : eqD (.int p.1) (.int r) = some (.bool (decide (p.1 = r))) := by
    unfold eqD
    rw [if_pos ⟨rfl, rfl⟩, eqv_int]
  simp [he]
theorem posted_eval (bd : PyData) (L WL : List PyData) (r w whole : Int) (due : PyData) (h0 : m_check_belief [bd] = .ok .none)
    (hc : compF (gUnp (gsCons (gSet 3) (gsCons (gUnp (gsCons (gSet 4) (gsCons (gSet 5) (gsNil)))) (gsNil)))) eTrue (e1 tupD (eCons (e2 mulD (eVarB 4) (e1 sumD (eCons (e1 listD (eComp [5, 6] (e1 itL (eSl slT (eVarB 0) (e1 asI (eVarB 3)) (eNone))) (gUnp (gsCons (gSet 5) (gsCons (gSet 6) (gsNil)))) (eTrue) (eVar 6))) eNil))) (eCons (eVar 4) (eNil)))) [.val bd, .un, .un, .un, .un, .un, .un, .un] L = some WL) (hen : enumL [bd] = some L)
    (q2 : PyData) (hmax : maxTD [.list WL] = some (.tuple [.int r, q2])) (L3 : List PyData)
    (hc2 : compF (gUnp (gsCons (gSet 7) (gsCons (gSet 4) (gsNil)))) (eTb (e2 eqD (eVarB 7) (eVarB 2))) (eVar 4) [.val bd, .val (.list WL), .val (.int r), .un, .un, .un, .un, .un] WL = some L3)
    (hmax2 : maxTD [.list L3] = some (.int w)) (hwt : m_weight_of [bd] = .ok (.int whole)) (hpl : m_plain [.int r, .int whole] = .ok due) :
    m_posted [bd] = .ok (if r = 0 then .none else .tuple [.int w, due]) := by
  have he : eqD (.int r) (.int 0) = some (.bool (decide (r = 0))) := by
    unfold eqD
    rw [if_pos ⟨rfl, rfl⟩, eqv_int]
  by_cases h : r = 0
  · subst h
    simp [m_posted, h0, hen, hc, hmax, he]
  · simp [m_posted, h0, hen, hc, hmax, he, h, hc2, hmax2, hwt, hpl]
theorem posted_ok {b : Bel} (hb : isB b = true) {k : Nat} (hk : k < b.length) (h1 : ∀ j, j ≤ b.length → RR b j ≤ RR b k) (h2 : ∀ j, k < j → j < b.length → RR b j < RR b k) :
    m_posted [belD b] = .ok (if RR b k = 0 then .none else .tuple [.int (V b k), frD (low (RR b k) (S b 0))]) := by
  have hl := len_b hb
  have hrl : (rw' b).length = b.length := by simp [rw']
  obtain ⟨q, hq, hm, hmax⟩ := maxP_ok (rw' b) (by omega) (by omega)
  obtain ⟨k', g1, rfl, g3, g4⟩ := best_k hb hq hm
  have hkk : k' = k := by
    rcases Nat.lt_trichotomy k' k with h | h | h
    · have := g4 k h hk; have := h1 k' (by omega); omega
    · exact h
    · have := h2 k' h g1; have := g3 k (by omega); omega
  subst hkk
  let ws := (rw' b).filter fun p => decide (p.1 = RR b k')
  have hws : ∀ p, p ∈ ws ↔ ∃ j, j < b.length ∧ RR b j = RR b k' ∧ p = (RR b j, V b j) := fun p => by
    simp only [ws, List.mem_filter, decide_eq_true_eq, rw', List.mem_map, List.mem_range]
    constructor
    · rintro ⟨⟨j, hj, rfl⟩, h⟩; exact ⟨j, hj, h, rfl⟩
    · rintro ⟨j, hj, h, rfl⟩; exact ⟨⟨j, hj, rfl⟩, h⟩
  have hin : (RR b k', V b k') ∈ ws := (hws _).mpr ⟨k', hk, rfl, rfl⟩
  have hwl : 0 < ws.length := List.length_pos_of_mem hin
  have hwl2 : ws.length ≤ 1000 := Nat.le_trans (List.length_filter_le _ _) (by omega)
  obtain ⟨w, hw, hwm, hmax2⟩ := maxI_ok (ws.map (·.2)) (by simpa using hwl) (by simpa using hwl2)
  have hwk : w = V b k' := by
    obtain ⟨p, hp, rfl⟩ := List.mem_map.mp hw
    obtain ⟨j, hj, hj2, rfl⟩ := (hws p).mp hp
    have a1 := hwm (V b k') (List.mem_map.mpr ⟨_, hin, rfl⟩)
    have a2 : ¬ k' < j := fun h => by have := h2 j h hj; omega
    have a3 : V b j ≤ V b k' := by
      by_cases e : j = k'
      · rw [e]; exact Int.le_refl _
      · exact Int.le_of_lt (V_lt hb (by omega) hk)
    show V b j = V b k'
    have a1 : ¬ V b j < V b k' := a1
    omega
  rw [hwk, List.map_map] at hmax2
  have hsp := S_pos hb (t := 0) (by omega)
  have hsb := S_b' hb 0
  have hpl := plain_ok (RR b k') (S b 0) hsp (by omega)
  have hcomp : compF (gUnp (gsCons (gSet 3) (gsCons (gUnp (gsCons (gSet 4) (gsCons (gSet 5) (gsNil)))) (gsNil)))) eTrue (e1 tupD (eCons (e2 mulD (eVarB 4) (e1 sumD (eCons (e1 listD (eComp [5, 6] (e1 itL (eSl slT (eVarB 0) (e1 asI (eVarB 3)) (eNone))) (gUnp (gsCons (gSet 5) (gsCons (gSet 6) (gsNil)))) (eTrue) (eVar 6))) eNil))) (eCons (eVar 4) (eNil)))) [.val (belD b), .un, .un, .un, .un, .un, .un, .un] ((List.range b.length).map fun (k : Nat) => PyData.tuple [.int ((k : Nat) : Int), frD (V b k, Wt b k)]) = some ((rw' b).map frD) := by
    unfold rw'
    rw [List.map_map]
    refine compF_all _ _ _ fun k hk => ⟨[.val (belD b), .un, .un, .val (.int (k : Int)), .val (.int (V b k)), .val (.int (Wt b k)), .un, .un], rfl, ?_⟩
    have hk := List.mem_range.mp hk
    exact elt_eval b (belD b) rfl k (V b k) _ _ _ _ _ (okMul_of (k := 10) (l := 10) (by have := V_b hb hk; omega) (by have := S_b' hb k; omega))
  have hen : enumL [belD b] = some ((List.range b.length).map fun (k : Nat) => PyData.tuple [.int ((k : Nat) : Int), frD (V b k, Wt b k)]) := by
    rw [enumL_list]
    congr 1
    apply List.ext_getElem?
    intro i
    rw [List.getElem?_map, List.getElem?_zipIdx]
    by_cases h : i < b.length
    · rw [at_b h, List.getElem?_map, List.getElem?_range h]
      simp
    · rw [List.getElem?_eq_none (by simpa using h), List.getElem?_eq_none (by simpa using h)]
      rfl
  have hc2 := worths_comp (belD b) (b := b) (RR b k') .un .un .un .un .un (.val (.list ((rw' b).map frD)))
  exact posted_eval (belD b) _ _ _ _ _ _ (check_ok hb) hcomp hen _ hmax _ hc2 hmax2 weight_ok (by rw [e_plain]; exact hpl)
end K06
/-! K06Y: smooth gains weigh together what the gains do. -/
namespace K06
open PySem PySem.Spec PyProof.Rows L2 Pf LawC K06M
def sb : Ro → Out := sSet 1 (eCall m__law_add (eCons (eVar 1) (eCons (eVar 2) (eNil))))
theorem sb_eval (L x y z : PyData) (h : m__law_add [x, y] = .ok z) : sb [.val L, .val x, .val y] = .nx [.val L, .val z, .val y] := by
  simp [sb, h]
theorem forF_cons (g : PyData → Ro → Option Ro) (b : Ro → Out) (d : PyData) (ds : List PyData) (ρ : Ro) : forF g b (d :: ds) ρ = (oNx (g d ρ)).seq fun ρ1 => match b ρ1 with
    | .nx ρ2 => forF g b ds ρ2
    | .ct ρ2 => forF g b ds ρ2
    | .bk ρ2 => .nx ρ2
    | o => o := rfl
theorem forF_append {g : PyData → Ro → Option Ro} {b : Ro → Out} : ∀ {xs ys : List PyData} {ρ ρ' : Ro}, forF g b xs ρ = .nx ρ' → (∀ x ∈ xs, ∀ ρ ρ1, g x ρ = some ρ1 → ∀ ρ2, b ρ1 ≠ .bk ρ2) → forF g b (xs ++ ys) ρ = forF g b ys ρ'
  | [], ys, ρ, ρ', h, _ => by cases h; rfl
  | x :: xs, ys, ρ, ρ', h, hb => by
    rw [List.cons_append, forF_cons]
    rw [forF_cons] at h
    cases hg : g x ρ with
    | none => rw [hg] at h; cases h
    | some ρ1 =>
      rw [hg] at h
      simp only [oNx_some, Out.seq_nx] at h ⊢
      cases e : b ρ1 with
      | nx ρ2 => rw [e] at h; exact forF_append h fun x hx => hb x (List.mem_cons_of_mem _ hx)
      | ct ρ2 => rw [e] at h; exact forF_append h fun x hx => hb x (List.mem_cons_of_mem _ hx)
      | bk ρ2 => exact absurd e (hb x (List.mem_cons_self ..) ρ ρ1 hg ρ2)
      | ret d => rw [e] at h; cases h
      | exc c k => rw [e] at h; cases h
      | bad => rw [e] at h; cases h
theorem sb_one (L x d z : PyData) (y : Sl) (h : m__law_add [x, d] = .ok z) : forF (gSet 2) sb [d] [.val L, .val x, y] = .nx [.val L, .val z, .val d] := by
  rw [forF_cons, show gSet 2 d [.val L, .val x, y] = some [.val L, .val x, .val d] from rfl, oNx_some, Out.seq_nx]
  simp only [sb_eval L x d z h]
  rfl
theorem sb_nobk (ρ ρ2 : Ro) : sb ρ ≠ .bk ρ2 := by
  unfold sb
  rw [sSet_eq]
  cases eCall m__law_add (eCons (eVar 1) (eCons (eVar 2) (eNil))) ρ <;> simp
/-- one pool's terms -/
theorem pool_sum {C P W : Int} {w Av : Nat → Int} {i : Nat} (hC : C.natAbs < 2 ^ 24) (hP : P.natAbs < 2 ^ 24) (hW : 0 < W) (hWb : W < 2 ^ 24) (hw : ∀ k, 0 < w k ∧ w k < 2 ^ 7) (L : PyData) : ∀ c : Nat, (∀ k, k ≤ c → Av i - Av (i + k) = ((List.range k).map fun s => w (i + s)).sum) → Av i - Av (i + c) ≤ 2 ^ 24 → ∀ x : Sl,
    ∃ y : Sl, forF (gSet 2) sb ((List.range c).map fun k => frD (low (w (i + k) * P) W)) [.val L, .val (frD (C, 1)), x] = .nx [.val L, .val (frD (low (C * W + (Av i - Av (i + c)) * P) W)), y]
  | 0, _, _, x => by
    refine ⟨x, ?_⟩
    have : low (C * W + (Av i - Av (i + 0)) * P) W = (C, 1) := by
      rw [Nat.add_zero, Int.sub_self, Int.zero_mul, Int.add_zero]
      rw [← low_one C]
      exact low_eq hW (by decide) (by rw [Int.mul_one])
    rw [this]
    rfl
  | c + 1, h, hA, x => by
    have hs : Av i - Av (i + (c + 1)) = (Av i - Av (i + c)) + w (i + c) := by
      rw [h (c + 1) (Nat.le_refl _), h c (by omega), List.range_succ, List.map_append, List.sum_append]
      simp
    have hpos : 0 ≤ Av i - Av (i + c) := by
      rw [h c (by omega)]
      have : ∀ l : List Nat, 0 ≤ (l.map fun s => w (i + s)).sum := by
        intro l
        induction l with
        | nil => simp
        | cons a l ih => simp; have := (hw (i + a)).1; omega
      exact this _
    have hwc := hw (i + c)
    obtain ⟨y, ih⟩ := pool_sum hC hP hW hWb hw L c (fun k hk => h k (by omega)) (by omega) x
    rw [List.range_succ, List.map_append, forF_append ih fun _ _ ρ ρ1 _ ρ2 => sb_nobk ρ1 ρ2]
    refine ⟨.val (frD (low (w (i + c) * P) W)), ?_⟩
    rw [hs, show ([c].map fun k => frD (low (w (i + k) * P) W)) = [frD (low (w (i + c) * P) W)] from rfl]
    generalize Av i - Av (i + c) = D at *
    generalize w (i + c) = u at *
    have v1 := low_val (n := C * W + D * P) hW
    have v2 := low_val (n := u * P) hW
    have d1 := low_den (n := C * W + D * P) hW
    have d2 := low_den (n := u * P) hW
    have n1 := low_num (n := C * W + D * P) hW
    have n2 := low_num (n := u * P) hW
    have b1 : (C * W + D * P).natAbs < 2 ^ 50 := by
      have q1 : (C * W).natAbs ≤ 2 ^ 24 * 2 ^ 24 := by rw [Int.natAbs_mul]; exact Nat.mul_le_mul (by omega) (by omega)
      have q2 : (D * P).natAbs ≤ 2 ^ 24 * 2 ^ 24 := by rw [Int.natAbs_mul]; exact Nat.mul_le_mul (by omega) (by omega)
      omega
    have b2 : (u * P).natAbs < 2 ^ 50 := by
      have q1 : (u * P).natAbs ≤ 2 ^ 7 * 2 ^ 24 := by rw [Int.natAbs_mul]; exact Nat.mul_le_mul (by omega) (by omega)
      omega
    have hden : (low (C * W + D * P) W).2 * (low (u * P) W).2 ≤ 2 ^ 24 * 2 ^ 24 := Int.mul_le_mul (by omega) (by omega) (by omega) (by omega)
    have ha := ladd_ok (low (C * W + D * P) W) (low (u * P) W) (okMul_of (k := 50) (l := 24) (by omega) (by omega)) (okMul_of (k := 50) (l := 24) (by omega) (by omega)) (okMul_of (k := 24) (l := 24) (by omega) (by omega)) (Int.mul_pos d1.1 d2.1) (by omega)
    have e : low ((low (C * W + D * P) W).1 * (low (u * P) W).2 + (low (u * P) W).1 * (low (C * W + D * P) W).2) ((low (C * W + D * P) W).2 * (low (u * P) W).2) = low (C * W + (D + u) * P) W := by
      refine low_eq (Int.mul_pos d1.1 d2.1) hW ?_
      generalize (low (C * W + D * P) W).1 = a1 at *
      generalize (low (C * W + D * P) W).2 = a2 at *
      generalize (low (u * P) W).1 = a3 at *
      generalize (low (u * P) W).2 = a4 at *
      clear hden ha b1 b2 n1 n2
      grind
    rw [e] at ha
    exact sb_one L _ _ _ y (by rw [e_add]; exact ha)

/-- the terms of pools side by side -/
def terms (w : Nat → Int) : Nat → List Pool → List PyData
  | _, [] => []
  | i, p :: G => ((List.range p.c).map fun k => frD (low (w (i + k) * p.P) p.W)) ++ terms w (i + p.c) G
theorem row_sum {b : Bel} (hb : isB b = true) {w : Nat → Int} (hw : ∀ k, 0 < w k ∧ w k < 2 ^ 7) (hwA : ∀ k, k < b.length → w k = AA b k - AA b (k + 1)) (L : PyData) : ∀ (G : List Pool) (i : Nat) (x : Sl), K06M.Row (AA b) (RR b) i b.length G →
    ∃ y : Sl, forF (gSet 2) sb (terms w i G) [.val L, .val (frD (RR b 0 - RR b i, 1)), x] = .nx [.val L, .val (frD (RR b 0 - RR b b.length, 1)), y]
  | [], i, x, h => by
    unfold K06M.Row at h
    subst h
    exact ⟨x, rfl⟩
  | p :: G, i, x, h => by
    obtain ⟨g1, g2, g3, g4, g5⟩ := h
    have hle := Row.le g5
    have hl := len_b hb
    have hok := okP_of hb p ⟨i, i + p.c, by omega, g2, g3, by omega⟩
    have h0 := RR_b hb 0
    have hi := RR_b hb i
    have hj := RR_b hb (i + p.c)
    have hsi := S_b' hb i
    have hsj := S_b' hb (i + p.c)
    have eA : AA b i - AA b (i + p.c) = S b i - S b (i + p.c) := by rw [AA_eq hb (by omega), AA_eq hb (by omega)]
    have hW24 : p.W < 2 ^ 24 := by rw [g3, eA]; omega
    obtain ⟨y, hy⟩ := pool_sum (C := RR b 0 - RR b i) (P := p.P) (W := p.W) (w := w) (Av := AA b) (i := i) (by omega) (by rw [g2]; omega) hok.2.1 hW24 hw L p.c (fun k hk => by
      rw [← tele (AA b) i k]
      congr 1
      apply List.map_congr_left
      intro s hs
      have := List.mem_range.mp hs
      rw [hwA (i + s) (by omega)]) (by rw [eA]; omega) x
    have e : low ((RR b 0 - RR b i) * p.W + (AA b i - AA b (i + p.c)) * p.P) p.W = (RR b 0 - RR b (i + p.c), 1) := by
      rw [← low_one]
      refine low_eq hok.2.1 (by decide) ?_
      rw [← g3, g2]
      grind
    rw [e] at hy
    obtain ⟨y2, hy2⟩ := row_sum hb hw hwA L G (i + p.c) y g5
    refine ⟨y2, ?_⟩
    show forF (gSet 2) sb (_ ++ terms w (i + p.c) G) _ = _
    rw [forF_append hy fun _ _ ρ ρ1 _ ρ2 => sb_nobk ρ1 ρ2]
    exact hy2
theorem terms_eq {A R : Nat → Int} (w : Nat → Int) (m : Nat) : ∀ (G : List Pool) (i : Nat), K06M.Row A R i m G → terms w i G = (List.range (m - i)).map fun k => frD (low (w (i + k) * ((unp G).getD k (0, 1)).1) ((unp G).getD k (0, 1)).2)
  | [], i, h => by
    unfold K06M.Row at h
    subst h
    simp [terms]
  | p :: G, i, h => by
    obtain ⟨g1, g2, g3, g4, g5⟩ := h
    have hle := Row.le g5
    show _ ++ terms w (i + p.c) G = _
    rw [terms_eq w m G (i + p.c) g5, show m - i = p.c + (m - (i + p.c)) by omega, List.range_add, List.map_append, List.map_map]
    congr 1
    · apply List.map_congr_left
      intro k hk
      have hk := List.mem_range.mp hk
      have : (unp (p :: G)).getD k (0, 1) = (p.P, p.W) := by
        rw [unp_cons, List.getD_eq_getElem?_getD, List.getElem?_append_left (by simpa using hk), List.getElem?_replicate, if_pos hk]
        rfl
      rw [this]
    · apply List.map_congr_left
      intro k hk
      have : (unp (p :: G)).getD (p.c + k) (0, 1) = (unp G).getD k (0, 1) := by
        rw [unp_cons, List.getD_eq_getElem?_getD, List.getD_eq_getElem?_getD, List.getElem?_append_right (by simp)]
        simp
      show _ = frD (low (w (i + (p.c + k)) * ((unp (p :: G)).getD (p.c + k) (0, 1)).1) ((unp (p :: G)).getD (p.c + k) (0, 1)).2)
      rw [this, Nat.add_assoc]
theorem sum_loop (L : List PyData) (z : PyData) (h : ∃ y : Sl, forF (gSet 2) sb L [.val (.list L), .val (frD (0, 1)), .un] = .nx [.val (.list L), .val z, y]) : m__law_sum [.list L] = .ok z := by
  obtain ⟨y, h⟩ := h
  unfold sb at h
  simp [m__law_sum, h]
end K06
/-! K06Za: parts of the law's turn. -/
namespace K06
open PySem PySem.Spec PyProof.Rows L2 Pf LawC K06M
/-! ### a datum is itself -/
theorem shaped_l (l : List Q) : SeqAt.shaped (.list (l.map frD)) = true ∧ PySem.W.alike (.list (l.map frD)) (.list (l.map frD)) = true := by
  have h : PyData.canLayAll0 (l.map frD) = true ∧ PyData.depthAll (l.map frD) ≤ 1 ∧ PySem.W.alikeAll (l.map frD) (l.map frD) = true := by
    induction l with
    | nil => exact ⟨rfl, Nat.zero_le _, rfl⟩
    | cons p l ih =>
      refine ⟨?_, ?_, ?_⟩
      · show (PyData.canLay0 (frD p) && PyData.canLayAll0 (l.map frD)) = true
        rw [ih.1]; rfl
      · show max (PyData.depth (frD p)) (PyData.depthAll (l.map frD)) ≤ 1
        have : PyData.depth (frD p) = 1 := rfl
        have := ih.2.1
        omega
      · show (PySem.W.alike (frD p) (frD p) && PySem.W.alikeAll (l.map frD) (l.map frD)) = true
        rw [ih.2.2]; rfl
  refine ⟨?_, h.2.2⟩
  unfold SeqAt.shaped
  simp only [Bool.and_eq_true, decide_eq_true_eq]
  refine ⟨h.1, ?_⟩
  show PyData.depthAll (l.map frD) + 1 ≤ 64
  omega
theorem ne_self {d : PyData} (h : SeqAt.shaped d = true ∧ PySem.W.alike d d = true) : neD d d = some (.bool false) := by
  unfold neD
  rw [if_pos ⟨h.1, h.1⟩, PySem.W.eqv_refl_alike d h.2]
  rfl
theorem eq_self' {d : PyData} (h : SeqAt.shaped d = true ∧ PySem.W.alike d d = true) : eqD d d = some (.bool true) := by
  unfold eqD
  rw [if_pos ⟨h.1, h.1⟩, PySem.W.eqv_refl_alike d h.2]
/-! ### what is refused -/
theorem word_ok (i : Nat) (hi : i < 3) {b : Bel} (hl : b.length ≤ 16777216) (h : isB b = false) : m__law_word [.int (i : Int), belD b] = .ok (.int 0) := by
  have hc := check_exc hl h
  have g1 : m_gains_of [belD b] = .exc "BadWorths" 0 := by
    generalize belD b = bd at *
    simp [m_gains_of, hc]
  have g2 : m_smooth_of [belD b] = .exc "BadWorths" 0 := by
    generalize belD b = bd at *
    simp [m_smooth_of, hc]
  have g3 : m_posted [belD b] = .exc "BadWorths" 0 := by
    generalize belD b = bd at *
    simp [m_posted, hc]
  generalize belD b = bd at *
  have e0 : ∀ a c : Int, eqD (.int a) (.int c) = some (.bool (decide (a = c))) := fun a c => by
    unfold eqD
    rw [if_pos ⟨rfl, rfl⟩, eqv_int]
  have key : ∀ (g : Ro → Out) (ρ : Ro), g ρ = .exc "BadWorths" 0 → sTryC ["BadWorths"] g [("BadWorths", fun k => .int k)] ρ = .ret (.int 0) := fun g ρ hg => by
    unfold sTryC
    rw [hg]
    rfl
  have : i = 0 ∨ i = 1 ∨ i = 2 := by omega
  rcases this with rfl | rfl | rfl
  · simp only [m__law_word, mDef_eq, sSeq_eq, List.length_cons, List.length_nil, Nat.zero_add, Nat.reduceAdd, if_true]
    rw [key]
    · rfl
    · simp [e0, g1]
  · simp only [m__law_word, mDef_eq, sSeq_eq, List.length_cons, List.length_nil, Nat.zero_add, Nat.reduceAdd, if_true]
    rw [key]
    · rfl
    · simp [e0, g2]
  · simp only [m__law_word, mDef_eq, sSeq_eq, List.length_cons, List.length_nil, Nat.zero_add, Nat.reduceAdd, if_true]
    rw [key]
    · rfl
    · simp [e0, g3]
theorem word_eval (bad : PyData) (bl : List PyData) (hbad : bad = .list bl) (ρ : Ro) (hl : ρ.length = 25) (h18 : ρ[18]? = some (.val bad)) (hw : ∀ i : Nat, i < 3 → m__law_word [.int (i : Int), bad] = .ok (.int 0)) :
    compF (gSet 24) (eTrue) (eCall m__law_word (eCons (eVar 24) (eCons (e1 listD (e1 listN (eCons (eVarB 18) eNil))) (eNil)))) ρ (rngL 0 3) = some [.int 0, .int 0, .int 0] := by
  rw [rngL_0]
  have := compF_all (fun i : Nat => PyData.int (i : Int)) (g := gSet 24) (f := eCall m__law_word (eCons (eVar 24) (eCons (e1 listD (e1 listN (eCons (eVarB 18) eNil))) (eNil)))) (ρ := ρ) (fun _ => PyData.int 0) (List.range 3) fun i hi => ⟨ρ.set 24 (.val (.int (i : Int))), rfl, by
    have hi := List.mem_range.mp hi
    have k1 : eVar 24 (ρ.set 24 (.val (.int (i : Int)))) = .ok (.int (i : Int)) := eVar_val (List.getElem?_set_self (by omega))
    have k2 : eVarB 18 (ρ.set 24 (.val (.int (i : Int)))) = .ok bad := eVarB_val (by rw [List.getElem?_set_ne (by decide)]; exact h18)
    have k3 := hw i hi
    subst hbad
    simp [k1, k2, k3]⟩
  rw [this]
  rfl
theorem bad_eval (bad : PyData) (bl : List PyData) (hbad : bad = .list bl) (ρ : Ro) (hl : ρ.length = 25) (h18 : ρ[18]? = some (.val bad)) (hw : ∀ i : Nat, i < 3 → m__law_word [.int (i : Int), bad] = .ok (.int 0)) (hi : m_is_belief [bad] = .ok (.bool false)) :
    (sIf (eOr (eTb (e2 isnD (eCall m_is_belief (eCons (e1 listD (e1 listN (eCons (eVarB 18) eNil))) (eNil))) (eC (.bool false)))) (eTb (e2 neD (e1 listD (eComp [24] (e1 rg1 (eCons (eC (.int 3)) (eNil))) (gSet 24) (eTrue) (eCall m__law_word (eCons (eVar 24) (eCons (e1 listD (e1 listN (eCons (eVarB 18) eNil))) (eNil)))))) (e1 listD (eCons (eC (.int 0)) (eCons (eC (.int 0)) (eCons (eC (.int 0)) (eNil))))))))
      (sRet (eC (.bool false)))
      (sPass)) ρ = .nx ρ := by
  have k2 : eVarB 18 ρ = .ok bad := eVarB_val h18
  have k3 := word_eval bad bl hbad (ρ.set 24 .un) (by simpa using hl) (by rw [List.getElem?_set_ne (by decide)]; exact h18) hw
  have k4 : neD (.list [.int 0, .int 0, .int 0]) (.list [.int 0, .int 0, .int 0]) = some (.bool false) := ne_self ⟨rfl, rfl⟩
  have k5 : rg1 [.int 3] = some (rngL 0 3) := rg1_int 3 (by decide) (by decide)
  subst hbad
  simp [k2, hi, k5, k3, k4]
/-- lists that are none -/
theorem notB_mem {b : Bel} (h : ∃ p ∈ b, p.1 < 0 ∨ 1000 < p.1 ∨ p.2 < 1 ∨ 100 < p.2) : isB b = false := by
  cases e : isB b with
  | false => rfl
  | true =>
    obtain ⟨p, hp, h⟩ := h
    obtain ⟨_, _, h3, _, h5⟩ := isB_iff.mp e
    have := h3 p hp
    have := h5 p hp
    omega
theorem notB_len {b : Bel} (h : b.length < 1 ∨ 6 < b.length) : isB b = false := by
  cases e : isB b with
  | false => rfl
  | true =>
    obtain ⟨h1, h2, _⟩ := isB_iff.mp e
    omega
theorem notB_zip {b : Bel} (x y : Q) (l r : Bel) (hb : b = l ++ [x, y] ++ r) (h : ¬ x.1 < y.1) : isB b = false := by
  cases e : isB b with
  | false => rfl
  | true =>
    obtain ⟨_, _, _, h4, _⟩ := isB_iff.mp e
    have hm : (x, y) ∈ b.zip b.tail := by
      rw [List.mem_iff_getElem?]
      refine ⟨l.length, ?_⟩
      rw [List.getElem?_zip_eq_some]
      subst hb
      constructor
      · simp
      · rw [List.getElem?_tail]
        simp
    exact absurd (h4 _ hm) h
end K06
/-! K06Zb: the comprehensions of the law's turn. -/
namespace K06
open PySem PySem.Spec PyProof.Rows L2 Pf LawC K06M
theorem vB {ρ : Ro} {i : Nat} {d : PyData} (h : ρ[i]? = some (.val d)) : eVarB i ρ = .ok d := eVarB_val h
theorem vB_set {ρ : Ro} {i j : Nat} {x : Sl} {d : PyData} (hij : i ≠ j) (h : ρ[j]? = some (.val d)) : eVarB j (ρ.set i x) = .ok d := eVarB_val (by rw [List.getElem?_set_ne hij]; exact h)
theorem vB_self {ρ : Ro} {i : Nat} {d : PyData} (h : i < ρ.length) : eVarB i (ρ.set i (.val d)) = .ok d := eVarB_val (List.getElem?_set_self h)
theorem v_self {ρ : Ro} {i : Nat} {d : PyData} (h : i < ρ.length) : eVar i (ρ.set i (.val d)) = .ok d := eVar_val (List.getElem?_set_self h)
theorem v_set {ρ : Ro} {i j : Nat} {x : Sl} {d : PyData} (hij : i ≠ j) (h : ρ[j]? = some (.val d)) : eVar j (ρ.set i x) = .ok d := eVar_val (by rw [List.getElem?_set_ne hij]; exact h)
theorem c1_ok (SL : List PyData) (n : Nat) (ρ : Ro) (hl : ρ.length = 25) (h5 : ρ[5]? = some (.val (.list SL))) (hless : ∀ t : Nat, t < n → ∃ x y : PyData, SL[t + 1]? = some x ∧ SL[t]? = some y ∧ m__law_is_less [x, y] = .ok (.bool false)) :
    compF (gSet 19) (eTb (eCall m__law_is_less (eCons (e2 ixD (eVarB 5) (e2 addD (eVarB 19) (eC (.int 1)))) (eCons (e2 ixD (eVarB 5) (eVarB 19)) (eNil))))) (eVar 19) ρ (rngL 0 n) = some [] := by
  rw [rngL_0]
  have := compF_map (fun i : Nat => PyData.int (i : Int)) (g := gSet 19) (c := eTb (eCall m__law_is_less (eCons (e2 ixD (eVarB 5) (e2 addD (eVarB 19) (eC (.int 1)))) (eCons (e2 ixD (eVarB 5) (eVarB 19)) (eNil))))) (f := eVar 19) (ρ := ρ) (fun _ => false) (fun _ => .none) (List.range n) fun t ht => ⟨ρ.set 19 (.val (.int (t : Int))), rfl, by
    obtain ⟨x, y, h1, h2, h3⟩ := hless t (List.mem_range.mp ht)
    have k1 : eVarB 19 (ρ.set 19 (.val (.int (t : Int)))) = .ok (.int (t : Int)) := vB_self (by omega)
    have k2 : eVarB 5 (ρ.set 19 (.val (.int (t : Int)))) = .ok (.list SL) := vB_set (by decide) h5
    have a1 : atI SL ((t : Int) + 1) = some x := by rw [atI_nat1, h1]
    have a2 : atI SL (t : Int) = some y := by rw [Pf.atI_nat, h2]
    simp [k1, k2, a1, a2, h3], by simp⟩
  rw [this]
  simp
theorem c2i_ok (BL RL : List PyData) (n : Nat) (w : Nat → Int) (v : Nat → Int) (z : Nat → PyData) (ρ : Ro) (hl : ρ.length = 25) (h3 : ρ[3]? = some (.val (.list BL))) (h20 : ρ[20]? = some (.val (.list RL)))
    (h : ∀ t : Nat, t < n → BL[t]? = some (frD (v t, w t)) ∧ ∃ r, RL[t]? = some r ∧ m__law_times [frD (w t, 1), r] = .ok (z t)) :
    compF (gSet 19) (eTrue) (eCall m__law_times (eCons (e1 tupD (eCons (e2 ixD (e2 ixD (eVarB 3) (eVarB 19)) (eC (.int 1))) (eCons (eC (.int 1)) (eNil)))) (eCons (e2 ixD (eVarB 20) (eVarB 19)) (eNil)))) ρ (rngL 0 n) = some ((List.range n).map z) := by
  rw [rngL_0]
  exact compF_all (fun i : Nat => PyData.int (i : Int)) (g := gSet 19) (f := eCall m__law_times (eCons (e1 tupD (eCons (e2 ixD (e2 ixD (eVarB 3) (eVarB 19)) (eC (.int 1))) (eCons (eC (.int 1)) (eNil)))) (eCons (e2 ixD (eVarB 20) (eVarB 19)) (eNil)))) (ρ := ρ) z (List.range n) fun t ht => ⟨ρ.set 19 (.val (.int (t : Int))), rfl, by
    obtain ⟨h1, r, h2, h4⟩ := h t (List.mem_range.mp ht)
    have k1 : eVarB 19 (ρ.set 19 (.val (.int (t : Int)))) = .ok (.int (t : Int)) := vB_self (by omega)
    have k2 : eVarB 3 (ρ.set 19 (.val (.int (t : Int)))) = .ok (.list BL) := vB_set (by decide) h3
    have k3 : eVarB 20 (ρ.set 19 (.val (.int (t : Int)))) = .ok (.list RL) := vB_set (by decide) h20
    have a1 : atI BL (t : Int) = some (frD (v t, w t)) := by rw [Pf.atI_nat, h1]
    have a2 : atI RL (t : Int) = some r := by rw [Pf.atI_nat, h2]
    generalize w t = wt at *
    simp [k1, k2, k3, a1, a2, h4]⟩
theorem c2o_ok (BL GL SL : List PyData) (n : Nat) (w v : Nat → Int) (z1 z2 : Nat → PyData) (r1 r2 : PyData) (ρ : Ro) (hl : ρ.length = 25) (h3 : ρ[3]? = some (.val (.list BL))) (hn : BL.length = n) (hn2 : n ≤ 1000)
    (hg : ∀ t : Nat, t < n → BL[t]? = some (frD (v t, w t)) ∧ ∃ r, GL[t]? = some r ∧ m__law_times [frD (w t, 1), r] = .ok (z1 t)) (hs : ∀ t : Nat, t < n → BL[t]? = some (frD (v t, w t)) ∧ ∃ r, SL[t]? = some r ∧ m__law_times [frD (w t, 1), r] = .ok (z2 t))
    (s1 : m__law_sum [.list ((List.range n).map z1)] = .ok r1) (s2 : m__law_sum [.list ((List.range n).map z2)] = .ok r2) :
    compF (gSet 20) (eTrue) (eCall m__law_sum (eCons (e1 listD (eComp [19] (e1 rg1 (eCons (e1 lenD (eCons (eVarB 3) eNil)) (eNil))) (gSet 19) (eTrue) (eCall m__law_times (eCons (e1 tupD (eCons (e2 ixD (e2 ixD (eVarB 3) (eVarB 19)) (eC (.int 1))) (eCons (eC (.int 1)) (eNil)))) (eCons (e2 ixD (eVarB 20) (eVarB 19)) (eNil)))))) (eNil))) ρ [.list GL, .list SL] = some [r1, r2] := by
  have one : ∀ (RL : List PyData) (z : Nat → PyData) (r : PyData), (∀ t : Nat, t < n → BL[t]? = some (frD (v t, w t)) ∧ ∃ r, RL[t]? = some r ∧ m__law_times [frD (w t, 1), r] = .ok (z t)) → m__law_sum [.list ((List.range n).map z)] = .ok r →
      eCall m__law_sum (eCons (e1 listD (eComp [19] (e1 rg1 (eCons (e1 lenD (eCons (eVarB 3) eNil)) (eNil))) (gSet 19) (eTrue) (eCall m__law_times (eCons (e1 tupD (eCons (e2 ixD (e2 ixD (eVarB 3) (eVarB 19)) (eC (.int 1))) (eCons (eC (.int 1)) (eNil)))) (eCons (e2 ixD (eVarB 20) (eVarB 19)) (eNil)))))) (eNil)) (ρ.set 20 (.val (.list RL))) = .ok r := by
    intro RL z r h hr
    have k3 : eVarB 3 (ρ.set 20 (.val (.list RL))) = .ok (.list BL) := vB_set (by decide) h3
    have hc := c2i_ok BL RL n w v z ((ρ.set 20 (.val (.list RL))).set 19 .un) (by simpa using hl) (by rw [List.getElem?_set_ne (by decide), List.getElem?_set_ne (by decide)]; exact h3) (by rw [List.getElem?_set_ne (by decide), List.getElem?_set_self (by omega)]) h
    have hr1 : rg1 [.int (BL.length : Int)] = some (rngL 0 n) := by rw [hn, rg1_int _ (by omega) (by omega)]; simp
    generalize (List.range n).map z = Z at *
    generalize ρ.set 20 (.val (.list RL)) = σ at *
    simp [k3, hr1, hc, hr]
  have h1 := one GL z1 r1 hg s1
  have h2 := one SL z2 r2 hs s2
  unfold compF
  rw [show gSet 20 (.list GL) ρ = some (ρ.set 20 (.val (.list GL))) from rfl]
  simp only [Option.bind_some, eTrue_eq, Res.opt_ok, if_true, h1]
  unfold compF
  rw [show gSet 20 (.list SL) ρ = some (ρ.set 20 (.val (.list SL))) from rfl]
  simp only [Option.bind_some, eTrue_eq, Res.opt_ok, if_true, h2]
  unfold compF
  rfl
theorem c4_ok {b : Bel} (hb : isB b = true) (ρ : Ro) (hl : ρ.length = 25) (h3 : ρ[3]? = some (.val (belD b))) :
    compF (gUnp (gsCons (gSet 15) (gsCons (gSet 16) (gsNil)))) (eTrue) (e1 tupD (eCons (e2 mulD (eVarB 15) (e1 sumD (eCons (e1 listD (eComp [21, 22] (e1 itL (eVarB 3)) (gUnp (gsCons (gSet 21) (gsCons (gSet 22) (gsNil)))) (eTb (e2 geD (eVarB 21) (eVarB 15))) (eVar 22))) eNil))) (eCons (eVar 15) (eNil)))) ρ (b.map frD) = some ((rw' b).map frD) := by
  have hlen := len_b hb
  have hbr : b = (List.range b.length).map fun k => (V b k, Wt b k) := by
    apply List.ext_getElem?
    intro i
    rw [List.getElem?_map]
    by_cases h : i < b.length
    · rw [List.getElem?_range h, List.getElem?_eq_getElem h]
      show some b[i] = some ((b.getD i (0, 0)).1, (b.getD i (0, 0)).2)
      rw [getD_lt _ h]
    · rw [List.getElem?_eq_none (by omega), List.getElem?_eq_none (by simpa using h)]
      rfl
  have hmap : b.map frD = (List.range b.length).map fun k => frD (V b k, Wt b k) := by
    conv => lhs; rw [hbr]
    rw [List.map_map]
    rfl
  unfold rw'
  rw [hmap, List.map_map]
  refine compF_all _ _ _ fun k hk => ⟨(ρ.set 15 (.val (.int (V b k)))).set 16 (.val (.int (Wt b k))), rfl, ?_⟩
  have hk := List.mem_range.mp hk
  have o : okMul (V b k) (S b k) = true := okMul_of (k := 10) (l := 10) (by have := V_b hb hk; omega) (by have := S_b' hb k; omega)
  generalize hσ : (ρ.set 15 (.val (.int (V b k)))).set 16 (.val (.int (Wt b k))) = σ
  have hσl : σ.length = 25 := by rw [← hσ]; simpa using hl
  have k3 : σ[3]? = some (.val (belD b)) := by rw [← hσ, List.getElem?_set_ne (by decide), List.getElem?_set_ne (by decide)]; exact h3
  have k15 : σ[15]? = some (.val (.int (V b k))) := by rw [← hσ, List.getElem?_set_ne (by decide), List.getElem?_set_self (by omega)]
  -- those that tell as much
  have hc : compF (gUnp (gsCons (gSet 21) (gsCons (gSet 22) (gsNil)))) (eTb (e2 geD (eVarB 21) (eVarB 15))) (eVar 22) ((σ.set 22 .un).set 21 .un) (b.map frD) = some ((b.filter fun p => decide (V b k ≤ p.1)).map fun p => .int p.2) := by
    refine compF_map frD _ _ b fun p hp => ⟨(((σ.set 22 .un).set 21 .un).set 21 (.val (.int p.1))).set 22 (.val (.int p.2)), rfl, ?_, fun _ => v_self (by simp; omega)⟩
    have q1 : eVarB 21 ((((σ.set 22 .un).set 21 .un).set 21 (.val (.int p.1))).set 22 (.val (.int p.2))) = .ok (.int p.1) := eVarB_val (by rw [List.getElem?_set_ne (by decide), List.getElem?_set_self (by simp; omega)])
    have q2 : eVarB 15 ((((σ.set 22 .un).set 21 .un).set 21 (.val (.int p.1))).set 22 (.val (.int p.2))) = .ok (.int (V b k)) := eVarB_val (by rw [List.getElem?_set_ne (by decide), List.getElem?_set_ne (by decide), List.getElem?_set_ne (by decide), List.getElem?_set_ne (by decide)]; exact k15)
    generalize (((σ.set 22 .un).set 21 .un).set 21 (.val (.int p.1))).set 22 (.val (.int p.2)) = τ at *
    simp [q1, q2]
  have hf : (b.filter fun p => decide (V b k ≤ p.1)) = b.drop k := by
    have f3 := List.filter_append (p := fun p : Q => decide (V b k ≤ p.1)) (b.take k) (b.drop k)
    rw [List.take_append_drop] at f3
    have f1 : (b.take k).filter (fun p => decide (V b k ≤ p.1)) = [] := by
      rw [List.filter_eq_nil_iff]
      intro p hp
      obtain ⟨i, hi, rfl⟩ := List.mem_iff_getElem.mp hp
      have hi2 : i < k := by simp at hi; omega
      rw [List.getElem_take]
      have := V_lt hb hi2 hk
      have e : b[i].1 = V b i := by unfold V; rw [getD_lt _ (by omega)]
      simp only [decide_eq_true_eq]
      omega
    have f2 : (b.drop k).filter (fun p => decide (V b k ≤ p.1)) = b.drop k := by
      rw [List.filter_eq_self]
      intro p hp
      obtain ⟨i, hi, rfl⟩ := List.mem_iff_getElem.mp hp
      have hi2 : k + i < b.length := by simp at hi; omega
      rw [List.getElem_drop]
      have e : b[k + i].1 = V b (k + i) := by unfold V; rw [getD_lt _ hi2]
      simp only [decide_eq_true_eq]
      rw [e]
      by_cases h0 : i = 0
      · subst h0; exact Int.le_refl _
      · exact Int.le_of_lt (V_lt hb (by omega) hi2)
    rw [f3, f1, f2]
    rfl
  rw [hf] at hc
  have hs := sum_map (b.drop k) (·.2)
  have hS : ((b.drop k).map (fun p : Int × Int => p.2)).sum = S b k := rfl
  rw [hS] at hs
  have q3 : eVarB 3 σ = .ok (.list (b.map frD)) := vB k3
  have q15 : eVarB 15 σ = .ok (.int (V b k)) := vB k15
  have q15' : eVar 15 σ = .ok (.int (V b k)) := eVar_val k15
  show _ = Res.ok (frD (V b k * S b k, V b k))
  generalize (b.drop k).map (fun p : Int × Int => PyData.int p.2) = L2 at *
  generalize b.map frD = BL at *
  generalize S b k = s at *
  generalize V b k = vv at *
  simp [q3, q15, q15', hc, hs, mulD_int o]
theorem c5_ok (BL SL : List PyData) (n : Nat) (p : Nat → Bool) (v w : Nat → Int) (ρ : Ro) (hl : ρ.length = 25) (h3 : ρ[3]? = some (.val (.list BL))) (h5 : ρ[5]? = some (.val (.list SL)))
    (h : ∀ t : Nat, t < n → BL[t]? = some (frD (v t, w t)) ∧ ∃ q : Q, SL[t]? = some (frD q) ∧ p t = decide (0 < q.1)) :
    compF (gSet 19) (eTb (e2 gtD (e2 ixD (e2 ixD (eVarB 5) (eVarB 19)) (eC (.int 0))) (eC (.int 0)))) (e2 ixD (e2 ixD (eVarB 3) (eVarB 19)) (eC (.int 0))) ρ (rngL 0 n) = some (((List.range n).filter p).map fun t => .int (v t)) := by
  rw [rngL_0]
  exact compF_map (fun i : Nat => PyData.int (i : Int)) (g := gSet 19) (ρ := ρ) p (fun t => .int (v t)) (List.range n) fun t ht => by
    obtain ⟨h1, q, h2, h4⟩ := h t (List.mem_range.mp ht)
    have k1 : eVarB 19 (ρ.set 19 (.val (.int (t : Int)))) = .ok (.int (t : Int)) := vB_self (by omega)
    have k2 : eVarB 3 (ρ.set 19 (.val (.int (t : Int)))) = .ok (.list BL) := vB_set (by decide) h3
    have k3 : eVarB 5 (ρ.set 19 (.val (.int (t : Int)))) = .ok (.list SL) := vB_set (by decide) h5
    have a1 : atI BL (t : Int) = some (frD (v t, w t)) := by rw [Pf.atI_nat, h1]
    have a2 : atI SL (t : Int) = some (frD q) := by rw [Pf.atI_nat, h2]
    refine ⟨ρ.set 19 (.val (.int (t : Int))), rfl, ?_, fun _ => ?_⟩
    · simp [k1, k3, a2, h4]
    · simp [k1, k2, a1]
theorem c6_ok {b : Bel} (hl6 : b.length ≤ 1000) (a : Nat) (ones : List Q) (ρ : Ro) (hl : ρ.length = 25) (h3 : ρ[3]? = some (.val (belD b))) (h13 : ρ[13]? = some (.val (.int (a : Int)))) :
    compF (gSet 23) (eTrue) (e2 addD (e2 addD (eSl slT (eVarB 3) (eNone) (e1 asI (eVarB 13))) (e1 listD (eCons (eVar 23) (eNil)))) (eSl slT (eVarB 3) (e1 asI (e2 addD (eVarB 13) (eC (.int 1)))) (eNone))) ρ (ones.map frD) = some ((ones.map fun o => b.take a ++ [o] ++ b.drop (a + 1)).map belD) := by
  rw [List.map_map]
  refine compF_all frD _ ones fun o ho => ⟨ρ.set 23 (.val (frD o)), rfl, ?_⟩
  have k1 : eVar 23 (ρ.set 23 (.val (frD o))) = .ok (frD o) := v_self (by omega)
  have k2 : eVarB 3 (ρ.set 23 (.val (frD o))) = .ok (.list (b.map frD)) := vB_set (by decide) h3
  have k3 : eVarB 13 (ρ.set 23 (.val (frD o))) = .ok (.int (a : Int)) := vB_set (by decide) h13
  have t1 := cut_to (b.map frD) a
  have t2 := cut_from1 (b.map frD) a
  have l1 := addD_list ((b.map frD).take a) [frD o] (by simp; omega)
  have l2 := addD_list ((b.map frD).take a ++ [frD o]) ((b.map frD).drop (a + 1)) (by simp; omega)
  have e : PyData.list ((b.map frD).take a ++ [frD o] ++ (b.map frD).drop (a + 1)) = belD (b.take a ++ [o] ++ b.drop (a + 1)) := by
    show _ = PyData.list ((b.take a ++ [o] ++ b.drop (a + 1)).map frD)
    rw [List.map_append, List.map_append, List.map_take, List.map_drop]
    rfl
  show _ = Res.ok (belD (b.take a ++ [o] ++ b.drop (a + 1)))
  rw [← e]
  generalize frD o = z at *
  generalize b.map frD = BL at *
  generalize (a : Int) = aa at *
  simp [k1, k2, k3, t1, t2, l1, l2]
theorem c7_ok (ρ : Ro) (hl : ρ.length = 25) : compF (gSet 19) (eTrue) (e1 tupD (eCons (eVar 19) (eCons (eC (.int 1)) (eNil)))) ρ (rngL 0 7) = some (((List.range 7).map fun (t : Nat) => ((t : Int), (1 : Int))).map frD) := by
  rw [rngL_0, List.map_map]
  refine compF_all (fun i : Nat => PyData.int (i : Int)) _ _ fun t ht => ⟨ρ.set 19 (.val (.int (t : Int))), rfl, ?_⟩
  have k1 : eVar 19 (ρ.set 19 (.val (.int (t : Int)))) = .ok (.int (t : Int)) := v_self (by omega)
  simp [k1]
end K06
/-! K06Zc: a turn of the law. -/
namespace K06
open PySem PySem.Spec PyProof.Rows L2 Pf LawC K06M
theorem lturn_eval (a0 dr : PyData) (kk : Int) (x3 x4 x5 x6 x7 x8 x9 x10 x11 x12 x13 x14 x15 x16 x17 x18 x19 x20 x21 x22 x23 x24 : Sl) (BL GL SL rl1 WL RWL rlm AB B4 rl7 L7 c1L BB5 : List PyData) (r0 s0 v0 w0 rk vk at_ va wa : Int) (lq : Q) (zl yb : PyData) (nb : Int)
    (hm : mulD (.int 20) (.int kk) = some (.int (20 * kk))) (hB : m__law_belief [dr, .int (10 + 20 * kk)] = .ok (.list BL)) (hg : m__law_gains [.list BL] = .ok (.list GL)) (hs : m__law_smooth [.list BL, .list GL] = .ok (.list SL))
    (h1 : m_is_belief [.list BL] = .ok (.bool true)) (h2 : m_gains_of [.list BL] = .ok (.list GL)) (n2 : neD (.list GL) (.list GL) = some (.bool false)) (h3 : m_smooth_of [.list BL] = .ok (.list SL)) (n3 : neD (.list SL) (.list SL) = some (.bool false))
    (hls : (SL.length : Int) = nb) (hlb : (BL.length : Int) = nb) (r1 : rg1 [.int (nb - 1)] = some rl1) (c1 : ∀ ρ : Ro, ρ.length = 25 → ρ[5]? = some (.val (.list SL)) → compF (gSet 19) (eTb (eCall m__law_is_less (eCons (e2 ixD (eVarB 5) (e2 addD (eVarB 19) (eC (.int 1)))) (eCons (e2 ixD (eVarB 5) (eVarB 19)) (eNil))))) (eVar 19) ρ rl1 = some [])
    (c2 : ∀ ρ : Ro, ρ.length = 25 → ρ[3]? = some (.val (.list BL)) → compF (gSet 20) (eTrue) (eCall m__law_sum (eCons (e1 listD (eComp [19] (e1 rg1 (eCons (e1 lenD (eCons (eVarB 3) eNil)) (eNil))) (gSet 19) (eTrue) (eCall m__law_times (eCons (e1 tupD (eCons (e2 ixD (e2 ixD (eVarB 3) (eVarB 19)) (eC (.int 1))) (eCons (eC (.int 1)) (eNil)))) (eCons (e2 ixD (eVarB 20) (eVarB 19)) (eNil)))))) (eNil))) ρ [.list GL, .list SL] = some [frD (r0, 1), frD (r0, 1)])
    (b0 : BL[0]? = some (frD (v0, w0))) (o : okMul v0 s0 = true) (e0 : v0 * s0 = r0) (c3 : ∀ ρ : Ro, ρ.length = 25 → compF (gUnp (gsCons (gSet 15) (gsCons (gSet 16) (gsNil)))) (eTrue) (eVar 16) ρ BL = some WL) (hsm : sumD [.list WL] = some (.int s0))
    (c4 : ∀ ρ : Ro, ρ.length = 25 → ρ[3]? = some (.val (.list BL)) → compF (gUnp (gsCons (gSet 15) (gsCons (gSet 16) (gsNil)))) (eTrue) (e1 tupD (eCons (e2 mulD (eVarB 15) (e1 sumD (eCons (e1 listD (eComp [21, 22] (e1 itL (eVarB 3)) (gUnp (gsCons (gSet 21) (gsCons (gSet 22) (gsNil)))) (eTb (e2 geD (eVarB 21) (eVarB 15))) (eVar 22))) eNil))) (eCons (eVar 15) (eNil)))) ρ BL = some RWL) (hmx : maxTD [.list RWL] = some (frD (rk, vk))) (hlow : m__law_low [.int rk, .int s0] = .ok (frD lq))
    (hp : m_posted [.list BL] = .ok (if rk = 0 then .none else .tuple [.int vk, frD lq])) (r2 : rg1 [.int nb] = some rlm) (c5 : ∀ ρ : Ro, ρ.length = 25 → ρ[3]? = some (.val (.list BL)) → ρ[5]? = some (.val (.list SL)) → compF (gSet 19) (eTb (e2 gtD (e2 ixD (e2 ixD (eVarB 5) (eVarB 19)) (eC (.int 0))) (eC (.int 0)))) (e2 ixD (e2 ixD (eVarB 3) (eVarB 19)) (eC (.int 0))) ρ rlm = some AB)
    (hab : rk ≠ 0 → AB[0]? = some (.int vk)) (mx : m__law_mix [dr, .int (100 + kk), .int nb] = .ok (.int at_)) (hat : atI BL at_ = some (frD (va, wa)))
    (c6 : ∀ ρ : Ro, ρ.length = 25 → ρ[3]? = some (.val (.list BL)) → ρ[13]? = some (.val (.int at_)) → compF (gSet 23) (eTrue) (e2 addD (e2 addD (eSl slT (eVarB 3) (eNone) (e1 asI (eVarB 13))) (e1 listD (eCons (eVar 23) (eNil)))) (eSl slT (eVarB 3) (e1 asI (e2 addD (eVarB 13) (eC (.int 1)))) (eNone))) ρ [frD (va, 0), frD (va, 101), frD (-1, wa), frD (1001, wa)] = some B4)
    (hl : atI BL (nb - 1) = some zl) (l1 : addD (.list BL) (.list [zl]) = some (.list (BL ++ [zl]))) (l2 : addD (.list BL.reverse) (.list [frD (0, 1)]) = some (.list (BL.reverse ++ [frD (0, 1)])))
    (r7 : rg1 [.int 7] = some rl7) (c7 : ∀ ρ : Ro, ρ.length = 25 → compF (gSet 19) (eTrue) (e1 tupD (eCons (eVar 19) (eCons (eC (.int 1)) (eNil)))) ρ rl7 = some L7) (hc : cutD BL none (some 1) = c1L) (l3 : addD (.list c1L) (.list c1L) = some (.list (c1L ++ c1L)))
    (l4 : addD (.list B4) (.list [.list (BL ++ [zl]), .list (BL.reverse ++ [frD (0, 1)]), .list [], .list L7, .list (c1L ++ c1L)]) = some (.list BB5))
    (hb : ∀ ρ : Ro, ρ.length = 25 → forF (gSet 18) (sIf (eOr (eTb (e2 isnD (eCall m_is_belief (eCons (e1 listD (e1 listN (eCons (eVarB 18) eNil))) (eNil))) (eC (.bool false)))) (eTb (e2 neD (e1 listD (eComp [24] (e1 rg1 (eCons (eC (.int 3)) (eNil))) (gSet 24) (eTrue) (eCall m__law_word (eCons (eVar 24) (eCons (e1 listD (e1 listN (eCons (eVarB 18) eNil))) (eNil)))))) (e1 listD (eCons (eC (.int 0)) (eCons (eC (.int 0)) (eCons (eC (.int 0)) (eNil))))))))
      (sRet (eC (.bool false)))
      (sPass)) BB5 ρ = .nx (ρ.set 18 (.val yb))) :
    ∃ y10 y11 : Sl, (sSeq (sSet 3 (eCall m__law_belief (eCons (eVar 1) (eCons (e2 addD (eC (.int 10)) (e2 mulD (eC (.int 20)) (eVarB 2))) (eNil)))))
      (sSeq (sSet 4 (eCall m__law_gains (eCons (eVar 3) (eNil))))
      (sSeq (sSet 5 (eCall m__law_smooth (eCons (eVar 3) (eCons (eVar 4) (eNil)))))
      (sSeq (sIf (eOr (eTb (e2 isnD (eCall m_is_belief (eCons (e1 listD (e1 listN (eCons (eVarB 3) eNil))) (eNil))) (eC (.bool true)))) (eOr (eTb (e2 neD (eCall m_gains_of (eCons (e1 listD (e1 listN (eCons (eVarB 3) eNil))) (eNil))) (eVarB 4))) (eTb (e2 neD (eCall m_smooth_of (eCons (e1 listD (e1 listN (eCons (eVarB 3) eNil))) (eNil))) (eVarB 5)))))
      (sRet (eC (.bool false)))
      (sPass))
      (sSeq (sIf (eTb (e2 neD (e1 listD (eComp [19] (e1 rg1 (eCons (e2 subD (e1 lenD (eCons (eVarB 5) eNil)) (eC (.int 1))) (eNil))) (gSet 19) (eTb (eCall m__law_is_less (eCons (e2 ixD (eVarB 5) (e2 addD (eVarB 19) (eC (.int 1)))) (eCons (e2 ixD (eVarB 5) (eVarB 19)) (eNil))))) (eVar 19))) (e1 listD (eNil))))
      (sRet (eC (.bool false)))
      (sPass))
      (sSeq (sSet 6 (e1 listD (eComp [20] (e1 itL (e1 listD (eCons (eVar 4) (eCons (eVar 5) (eNil))))) (gSet 20) (eTrue) (eCall m__law_sum (eCons (e1 listD (eComp [19] (e1 rg1 (eCons (e1 lenD (eCons (eVarB 3) eNil)) (eNil))) (gSet 19) (eTrue) (eCall m__law_times (eCons (e1 tupD (eCons (e2 ixD (e2 ixD (eVarB 3) (eVarB 19)) (eC (.int 1))) (eCons (eC (.int 1)) (eNil)))) (eCons (e2 ixD (eVarB 20) (eVarB 19)) (eNil)))))) (eNil))))))
      (sSeq (sIf (eOr (eTb (e2 neD (e2 ixD (eVarB 6) (eC (.int 0))) (e2 ixD (eVarB 6) (eC (.int 1))))) (eTb (e2 neD (e2 ixD (eVarB 6) (eC (.int 0))) (e1 tupD (eCons (e2 mulD (e2 ixD (e2 ixD (eVarB 3) (eC (.int 0))) (eC (.int 0))) (e1 sumD (eCons (e1 listD (eComp [15, 16] (e1 itL (eVarB 3)) (gUnp (gsCons (gSet 15) (gsCons (gSet 16) (gsNil)))) (eTrue) (eVar 16))) eNil))) (eCons (eC (.int 1)) (eNil)))))))
      (sRet (eC (.bool false)))
      (sPass))
      (sSeq (sSet 7 (e1 sumD (eCons (e1 listD (eComp [15, 16] (e1 itL (eVarB 3)) (gUnp (gsCons (gSet 15) (gsCons (gSet 16) (gsNil)))) (eTrue) (eVar 16))) eNil)))
      (sSeq (sSet 8 (e1 listD (eComp [15, 16] (e1 itL (eVarB 3)) (gUnp (gsCons (gSet 15) (gsCons (gSet 16) (gsNil)))) (eTrue) (e1 tupD (eCons (e2 mulD (eVarB 15) (e1 sumD (eCons (e1 listD (eComp [21, 22] (e1 itL (eVarB 3)) (gUnp (gsCons (gSet 21) (gsCons (gSet 22) (gsNil)))) (eTb (e2 geD (eVarB 21) (eVarB 15))) (eVar 22))) eNil))) (eCons (eVar 15) (eNil)))))))
      (sSeq (sSet 9 (e1 maxTD (eCons (eVarB 8) eNil)))
      (sSeq (sSet 10 (e2 ixD (e1 listD (eCons (eCall m__law_low (eCons (e2 ixD (eVarB 9) (eC (.int 0))) (eCons (eVar 7) (eNil)))) (eCons (eC .none) (eNil)))) (e1 intD (eCons (e2 eqD (e2 ixD (eVarB 9) (eC (.int 0))) (eC (.int 0))) eNil))))
      (sSeq (sSet 11 (eCall m_posted (eCons (e1 listD (e1 listN (eCons (eVarB 3) eNil))) (eNil))))
      (sSeq (sIf (eOr (eTb (e2 neD (e2 isD (eVarB 11) (eC .none)) (e2 isD (eVarB 10) (eC .none)))) (eAnd (eTb (e2 isnD (eVarB 11) (eC .none))) (eTb (e2 neD (eVarB 11) (e1 tupD (eCons (e2 ixD (eVarB 9) (eC (.int 1))) (eCons (eVar 10) (eNil))))))))
      (sRet (eC (.bool false)))
      (sPass))
      (sSeq (sSet 12 (e1 listD (eComp [19] (e1 rg1 (eCons (e1 lenD (eCons (eVarB 3) eNil)) (eNil))) (gSet 19) (eTb (e2 gtD (e2 ixD (e2 ixD (eVarB 5) (eVarB 19)) (eC (.int 0))) (eC (.int 0)))) (e2 ixD (e2 ixD (eVarB 3) (eVarB 19)) (eC (.int 0))))))
      (sSeq (sIf (eAnd (eTb (e2 isnD (eVarB 11) (eC .none))) (eTb (e2 neD (e2 ixD (eVarB 11) (eC (.int 0))) (e2 ixD (eVarB 12) (eC (.int 0))))))
      (sRet (eC (.bool false)))
      (sPass))
      (sSeq (sAsg (gUnp (gsCons (gSet 13) (gsCons (gSet 14) (gsNil)))) (e1 tupD (eCons (eCall m__law_mix (eCons (eVar 1) (eCons (e2 addD (eC (.int 100)) (eVarB 2)) (eCons (e1 lenD (eCons (eVarB 3) eNil)) (eNil))))) (eCons (e2 subD (e1 lenD (eCons (eVarB 3) eNil)) (eC (.int 1))) (eNil)))))
      (sSeq (sAsg (gUnp (gsCons (gSet 15) (gsCons (gSet 16) (gsNil)))) (e2 ixD (eVarB 3) (eVarB 13)))
      (sSeq (sSet 17 (e1 listD (eComp [23] (e1 itL (e1 listD (eCons (e1 tupD (eCons (eVar 15) (eCons (eC (.int 0)) (eNil)))) (eCons (e1 tupD (eCons (eVar 15) (eCons (eC (.int 101)) (eNil)))) (eCons (e1 tupD (eCons (e1 negD (eC (.int 1))) (eCons (eVar 16) (eNil)))) (eCons (e1 tupD (eCons (eC (.int 1001)) (eCons (eVar 16) (eNil)))) (eNil))))))) (gSet 23) (eTrue) (e2 addD (e2 addD (eSl slT (eVarB 3) (eNone) (e1 asI (eVarB 13))) (e1 listD (eCons (eVar 23) (eNil)))) (eSl slT (eVarB 3) (e1 asI (e2 addD (eVarB 13) (eC (.int 1)))) (eNone))))))
      (sSeq (sSet 17 (e2 addD (eVarB 17) (e1 listD (eCons (e2 addD (eVarB 3) (e1 listD (eCons (e2 ixD (eVarB 3) (eVarB 14)) (eNil)))) (eCons (e2 addD (e1 listD (e1 revL (eVarB 3))) (e1 listD (eCons (e1 tupD (eCons (eC (.int 0)) (eCons (eC (.int 1)) (eNil)))) (eNil)))) (eCons (e1 listD (eNil)) (eCons (e1 listD (eComp [19] (e1 rg1 (eCons (eC (.int 7)) (eNil))) (gSet 19) (eTrue) (e1 tupD (eCons (eVar 19) (eCons (eC (.int 1)) (eNil)))))) (eCons (e2 addD (eSl slT (eVarB 3) (eNone) (e1 asI (eC (.int 1)))) (eSl slT (eVarB 3) (eNone) (e1 asI (eC (.int 1))))) (eNil)))))))))
      (sFor (e1 itL (eVar 17)) (gSet 18)
      (sIf (eOr (eTb (e2 isnD (eCall m_is_belief (eCons (e1 listD (e1 listN (eCons (eVarB 18) eNil))) (eNil))) (eC (.bool false)))) (eTb (e2 neD (e1 listD (eComp [24] (e1 rg1 (eCons (eC (.int 3)) (eNil))) (gSet 24) (eTrue) (eCall m__law_word (eCons (eVar 24) (eCons (e1 listD (e1 listN (eCons (eVarB 18) eNil))) (eNil)))))) (e1 listD (eCons (eC (.int 0)) (eCons (eC (.int 0)) (eCons (eC (.int 0)) (eNil))))))))
      (sRet (eC (.bool false)))
      (sPass)))))))))))))))))))))) [.val a0, .val dr, .val (.int kk), x3, x4, x5, x6, x7, x8, x9, x10, x11, x12, x13, x14, x15, x16, x17, x18, x19, x20, x21, x22, x23, x24] = .nx [.val a0, .val dr, .val (.int kk), .val (.list BL), .val (.list GL), .val (.list SL), .val (.list [frD (r0, 1), frD (r0, 1)]), .val (.int s0), .val (.list RWL), .val (frD (rk, vk)), y10, y11, .val (.list AB), .val (.int at_), .val (.int (nb - 1)), .val (.int va), .val (.int wa), .val (.list BB5), .val yb, x19, x20, x21, x22, x23, x24] := by
  have n5 : neD (frD (r0, 1)) (frD (r0, 1)) = some (.bool false) := ne_self ⟨rfl, rfl⟩
  have n4 : neD (.list []) (.list []) = some (.bool false) := ne_self ⟨rfl, rfl⟩
  have n6 : ∀ x : Bool, neD (.bool x) (.bool x) = some (.bool false) := fun x => ne_self ⟨rfl, rfl⟩
  have n7 : neD (.tuple [.int vk, frD lq]) (.tuple [.int vk, frD lq]) = some (.bool false) := ne_self ⟨rfl, rfl⟩
  have n8 : neD (.int vk) (.int vk) = some (.bool false) := ne_self ⟨rfl, rfl⟩
  have he : eqD (.int rk) (.int 0) = some (.bool (decide (rk = 0))) := by
    unfold eqD
    rw [if_pos ⟨rfl, rfl⟩, eqv_int]
  have rv : revL (.list BL) = some BL.reverse := rfl
  have mo := mulD_int o
  rw [e0] at mo
  by_cases hk : rk = 0
  · rw [if_pos hk] at hp
    rw [decide_eq_true hk] at he
    refine ⟨.val .none, .val .none, ?_⟩
    simp -implicitDefEqProofs [hm, hB, hg, hs, h1, h2, n2, h3, n3, hls, hlb, r1, c1, n4, c2, n5, b0, mo, c3, hsm, c4, hmx, hlow, he, hp, n6, r2, c5, mx, hat, c6, hl, l1, l2, r7, c7, hc, l3, rv, l4, hb, isNo]
  · have hab := hab hk
    rw [if_neg hk] at hp
    rw [decide_eq_false hk] at he
    refine ⟨.val (frD lq), .val (.tuple [.int vk, frD lq]), ?_⟩
    simp -implicitDefEqProofs [hm, hB, hg, hs, h1, h2, n2, h3, n3, hls, hlb, r1, c1, n4, c2, n5, b0, mo, c3, hsm, c4, hmx, hlow, he, hp, n6, n7, n8, r2, c5, hab, mx, hat, c6, hl, l1, l2, r7, c7, hc, l3, rv, l4, hb, isNo]
end K06
/-! K06Zd: the law. -/
namespace K06
open PySem PySem.Spec PyProof.Rows L2 Pf LawC K06M
theorem bads_loop : ∀ (BBs : List Bel), BBs ≠ [] → (∀ b ∈ BBs, isB b = false ∧ b.length ≤ 16777216) → ∃ yb : PyData, ∀ ρ : Ro, ρ.length = 25 → forF (gSet 18) (sIf (eOr (eTb (e2 isnD (eCall m_is_belief (eCons (e1 listD (e1 listN (eCons (eVarB 18) eNil))) (eNil))) (eC (.bool false)))) (eTb (e2 neD (e1 listD (eComp [24] (e1 rg1 (eCons (eC (.int 3)) (eNil))) (gSet 24) (eTrue) (eCall m__law_word (eCons (eVar 24) (eCons (e1 listD (e1 listN (eCons (eVarB 18) eNil))) (eNil)))))) (e1 listD (eCons (eC (.int 0)) (eCons (eC (.int 0)) (eCons (eC (.int 0)) (eNil))))))))
      (sRet (eC (.bool false)))
      (sPass)) (BBs.map belD) ρ = .nx (ρ.set 18 (.val yb))
  | [], h, _ => absurd rfl h
  | b :: rest, _, h => by
    obtain ⟨hb, hlen⟩ := h b (List.mem_cons_self ..)
    have step : ∀ ρ : Ro, ρ.length = 25 → (sIf (eOr (eTb (e2 isnD (eCall m_is_belief (eCons (e1 listD (e1 listN (eCons (eVarB 18) eNil))) (eNil))) (eC (.bool false)))) (eTb (e2 neD (e1 listD (eComp [24] (e1 rg1 (eCons (eC (.int 3)) (eNil))) (gSet 24) (eTrue) (eCall m__law_word (eCons (eVar 24) (eCons (e1 listD (e1 listN (eCons (eVarB 18) eNil))) (eNil)))))) (e1 listD (eCons (eC (.int 0)) (eCons (eC (.int 0)) (eCons (eC (.int 0)) (eNil))))))))
      (sRet (eC (.bool false)))
      (sPass)) (ρ.set 18 (.val (belD b))) = .nx (ρ.set 18 (.val (belD b))) := fun ρ hl => by
      refine bad_eval (belD b) _ rfl _ (by simpa using hl) (List.getElem?_set_self (by omega)) (fun i hi => word_ok i hi hlen hb) ?_
      have := is_belief_ok b hlen
      rw [hb] at this
      exact this
    by_cases hr : rest = []
    · subst hr
      refine ⟨belD b, fun ρ hl => ?_⟩
      rw [List.map_cons, forF_cons, show gSet 18 (belD b) ρ = some (ρ.set 18 (.val (belD b))) from rfl, oNx_some, Out.seq_nx]
      simp only [step ρ hl]
      rfl
    · obtain ⟨yb, ih⟩ := bads_loop rest hr fun x hx => h x (List.mem_cons_of_mem _ hx)
      refine ⟨yb, fun ρ hl => ?_⟩
      rw [List.map_cons, forF_cons, show gSet 18 (belD b) ρ = some (ρ.set 18 (.val (belD b))) from rfl, oNx_some, Out.seq_nx]
      simp only [step ρ hl]
      rw [ih _ (by simpa using hl), List.set_set]
theorem good_q {b : Bel} (hb : isB b = true) {t : Nat} {P W : Int} (G : Good (AA b) (RR b) b.length t P W) : OkQ (P, W) := by
  obtain ⟨i, j, hi, hj, hjm, rfl, rfl, _⟩ := G.ex
  exact okq hb (by omega) hjm
theorem good_up {b : Bel} (hb : isB b = true) {t : Nat} {P W P' W' : Int} (G : Good (AA b) (RR b) b.length t P W) (G' : Good (AA b) (RR b) b.length (t + 1) P' W') : P * W' ≤ P' * W := by
  have q := good_q hb G
  have q' := good_q hb G'
  obtain ⟨i, j, hi, hj, hjm, e1, e2, hs⟩ := G.ex
  obtain ⟨i', j', hi', hj', hjm', e1', e2', hs'⟩ := G'.ex
  have a := hs j' hjm'
  have c := hs' i (by omega)
  have d := okq hb (i := i) (j := j') (by omega) hjm'
  refine q_tr (p := (P, W)) (q := (RR b i - RR b j', AA b i - AA b j')) (r := (P', W')) q d q' ?_ ?_
  · show P * (AA b i - AA b j') ≤ (RR b i - RR b j') * W
    have f1 : RR b j' - RR b i = -(RR b i - RR b j') := by omega
    have f2 : AA b j' - AA b i = -(AA b i - AA b j') := by omega
    rw [f1, f2] at a
    grind
  · show (RR b i - RR b j') * W' ≤ P' * (AA b i - AA b j')
    have f1 : RR b i - RR b j' = (RR b i - RR b i') + P' := by omega
    have f2 : AA b i - AA b j' = (AA b i - AA b i') + W' := by omega
    rw [f1, f2]
    grind
theorem good_neg {b : Bel} (hb : isB b = true) {t k : Nat} {P W : Int} (G : Good (AA b) (RR b) b.length t P W) (hk : k < b.length) (htk : t < k) (h1 : ∀ j, j ≤ b.length → RR b j ≤ RR b k) : P ≤ 0 := by
  have q := good_q hb G
  obtain ⟨i, j, hi, hj, hjm, e1, e2, hs⟩ := G.ex
  have a := hs k (by omega)
  have d := AA_dec hb i k (by omega)
  have r := h1 i (by omega)
  have hW : 0 < W := q.2.1
  have z : 0 ≤ (RR b k - RR b i) * W := Int.mul_nonneg (by omega) (by omega)
  have z2 : 0 ≤ P * (AA b k - AA b i) := by omega
  by_cases hp : P ≤ 0
  · exact hp
  · exfalso
    have : P * (AA b k - AA b i) < 0 := Int.mul_neg_of_pos_of_neg (by omega) (by omega)
    omega
theorem good_pos {b : Bel} (hb : isB b = true) {k : Nat} {P W : Int} (G : Good (AA b) (RR b) b.length k P W) (h2 : ∀ j, k < j → j < b.length → RR b j < RR b k) (h0 : 0 < RR b k) : 0 < P := by
  have q := good_q hb G
  obtain ⟨i, j, hi, hj, hjm, e1, e2, hs⟩ := G.ex
  have a := hs k (by omega)
  have d := AA_dec hb k j hj
  have r : RR b j < RR b k := by
    by_cases e : j < b.length
    · exact h2 j hj e
    · have : RR b j = 0 := by unfold RR; rw [S_zero (by omega)]; omega
      omega
  have hW : 0 < W := q.2.1
  have z : 0 < (RR b k - RR b j) * W := Int.mul_pos (by omega) hW
  have e : (RR b k - RR b j) * W ≤ P * (AA b k - AA b j) := by
    have f1 : RR b k - RR b j = (RR b k - RR b i) + P := by omega
    have f2 : AA b k - AA b j = (AA b k - AA b i) + W := by omega
    rw [f1, f2]
    grind
  by_cases hp : 0 < P
  · exact hp
  · exfalso
    have : P * (AA b k - AA b j) ≤ 0 := Int.mul_nonpos_of_nonpos_of_nonneg (by omega) (by omega)
    omega
theorem filter_first (p : Nat → Bool) : ∀ (n k : Nat), k < n → p k = true → (∀ t, t < k → p t = false) → ((List.range n).filter p)[0]? = some k := fun n k hk hp hn => by
  have : n = k + (n - k) := by omega
  rw [this, List.range_add, List.filter_append]
  have f1 : (List.range k).filter p = [] := by
    rw [List.filter_eq_nil_iff]
    intro t ht
    rw [hn t (List.mem_range.mp ht)]
    decide
  obtain ⟨m, hm⟩ : ∃ m, n - k = m + 1 := ⟨n - k - 1, by omega⟩
  rw [f1, hm, List.range_succ_eq_map, List.map_cons, List.filter_cons_of_pos (by simpa using hp)]
  simp
theorem turn_ok {ds : List Int} (hd : Dr ds) (a0 : PyData) (k0 : Nat) (hk0 : k0 < 4) (x3 x4 x5 x6 x7 x8 x9 x10 x11 x12 x13 x14 x15 x16 x17 x18 x19 x20 x21 x22 x23 x24 : Sl) : ∃ (z : List Sl), z.length = 22 ∧ (sSeq (sSet 3 (eCall m__law_belief (eCons (eVar 1) (eCons (e2 addD (eC (.int 10)) (e2 mulD (eC (.int 20)) (eVarB 2))) (eNil)))))
      (sSeq (sSet 4 (eCall m__law_gains (eCons (eVar 3) (eNil))))
      (sSeq (sSet 5 (eCall m__law_smooth (eCons (eVar 3) (eCons (eVar 4) (eNil)))))
      (sSeq (sIf (eOr (eTb (e2 isnD (eCall m_is_belief (eCons (e1 listD (e1 listN (eCons (eVarB 3) eNil))) (eNil))) (eC (.bool true)))) (eOr (eTb (e2 neD (eCall m_gains_of (eCons (e1 listD (e1 listN (eCons (eVarB 3) eNil))) (eNil))) (eVarB 4))) (eTb (e2 neD (eCall m_smooth_of (eCons (e1 listD (e1 listN (eCons (eVarB 3) eNil))) (eNil))) (eVarB 5)))))
      (sRet (eC (.bool false)))
      (sPass))
      (sSeq (sIf (eTb (e2 neD (e1 listD (eComp [19] (e1 rg1 (eCons (e2 subD (e1 lenD (eCons (eVarB 5) eNil)) (eC (.int 1))) (eNil))) (gSet 19) (eTb (eCall m__law_is_less (eCons (e2 ixD (eVarB 5) (e2 addD (eVarB 19) (eC (.int 1)))) (eCons (e2 ixD (eVarB 5) (eVarB 19)) (eNil))))) (eVar 19))) (e1 listD (eNil))))
      (sRet (eC (.bool false)))
      (sPass))
      (sSeq (sSet 6 (e1 listD (eComp [20] (e1 itL (e1 listD (eCons (eVar 4) (eCons (eVar 5) (eNil))))) (gSet 20) (eTrue) (eCall m__law_sum (eCons (e1 listD (eComp [19] (e1 rg1 (eCons (e1 lenD (eCons (eVarB 3) eNil)) (eNil))) (gSet 19) (eTrue) (eCall m__law_times (eCons (e1 tupD (eCons (e2 ixD (e2 ixD (eVarB 3) (eVarB 19)) (eC (.int 1))) (eCons (eC (.int 1)) (eNil)))) (eCons (e2 ixD (eVarB 20) (eVarB 19)) (eNil)))))) (eNil))))))
      (sSeq (sIf (eOr (eTb (e2 neD (e2 ixD (eVarB 6) (eC (.int 0))) (e2 ixD (eVarB 6) (eC (.int 1))))) (eTb (e2 neD (e2 ixD (eVarB 6) (eC (.int 0))) (e1 tupD (eCons (e2 mulD (e2 ixD (e2 ixD (eVarB 3) (eC (.int 0))) (eC (.int 0))) (e1 sumD (eCons (e1 listD (eComp [15, 16] (e1 itL (eVarB 3)) (gUnp (gsCons (gSet 15) (gsCons (gSet 16) (gsNil)))) (eTrue) (eVar 16))) eNil))) (eCons (eC (.int 1)) (eNil)))))))
      (sRet (eC (.bool false)))
      (sPass))
      (sSeq (sSet 7 (e1 sumD (eCons (e1 listD (eComp [15, 16] (e1 itL (eVarB 3)) (gUnp (gsCons (gSet 15) (gsCons (gSet 16) (gsNil)))) (eTrue) (eVar 16))) eNil)))
      (sSeq (sSet 8 (e1 listD (eComp [15, 16] (e1 itL (eVarB 3)) (gUnp (gsCons (gSet 15) (gsCons (gSet 16) (gsNil)))) (eTrue) (e1 tupD (eCons (e2 mulD (eVarB 15) (e1 sumD (eCons (e1 listD (eComp [21, 22] (e1 itL (eVarB 3)) (gUnp (gsCons (gSet 21) (gsCons (gSet 22) (gsNil)))) (eTb (e2 geD (eVarB 21) (eVarB 15))) (eVar 22))) eNil))) (eCons (eVar 15) (eNil)))))))
      (sSeq (sSet 9 (e1 maxTD (eCons (eVarB 8) eNil)))
      (sSeq (sSet 10 (e2 ixD (e1 listD (eCons (eCall m__law_low (eCons (e2 ixD (eVarB 9) (eC (.int 0))) (eCons (eVar 7) (eNil)))) (eCons (eC .none) (eNil)))) (e1 intD (eCons (e2 eqD (e2 ixD (eVarB 9) (eC (.int 0))) (eC (.int 0))) eNil))))
      (sSeq (sSet 11 (eCall m_posted (eCons (e1 listD (e1 listN (eCons (eVarB 3) eNil))) (eNil))))
      (sSeq (sIf (eOr (eTb (e2 neD (e2 isD (eVarB 11) (eC .none)) (e2 isD (eVarB 10) (eC .none)))) (eAnd (eTb (e2 isnD (eVarB 11) (eC .none))) (eTb (e2 neD (eVarB 11) (e1 tupD (eCons (e2 ixD (eVarB 9) (eC (.int 1))) (eCons (eVar 10) (eNil))))))))
      (sRet (eC (.bool false)))
      (sPass))
      (sSeq (sSet 12 (e1 listD (eComp [19] (e1 rg1 (eCons (e1 lenD (eCons (eVarB 3) eNil)) (eNil))) (gSet 19) (eTb (e2 gtD (e2 ixD (e2 ixD (eVarB 5) (eVarB 19)) (eC (.int 0))) (eC (.int 0)))) (e2 ixD (e2 ixD (eVarB 3) (eVarB 19)) (eC (.int 0))))))
      (sSeq (sIf (eAnd (eTb (e2 isnD (eVarB 11) (eC .none))) (eTb (e2 neD (e2 ixD (eVarB 11) (eC (.int 0))) (e2 ixD (eVarB 12) (eC (.int 0))))))
      (sRet (eC (.bool false)))
      (sPass))
      (sSeq (sAsg (gUnp (gsCons (gSet 13) (gsCons (gSet 14) (gsNil)))) (e1 tupD (eCons (eCall m__law_mix (eCons (eVar 1) (eCons (e2 addD (eC (.int 100)) (eVarB 2)) (eCons (e1 lenD (eCons (eVarB 3) eNil)) (eNil))))) (eCons (e2 subD (e1 lenD (eCons (eVarB 3) eNil)) (eC (.int 1))) (eNil)))))
      (sSeq (sAsg (gUnp (gsCons (gSet 15) (gsCons (gSet 16) (gsNil)))) (e2 ixD (eVarB 3) (eVarB 13)))
      (sSeq (sSet 17 (e1 listD (eComp [23] (e1 itL (e1 listD (eCons (e1 tupD (eCons (eVar 15) (eCons (eC (.int 0)) (eNil)))) (eCons (e1 tupD (eCons (eVar 15) (eCons (eC (.int 101)) (eNil)))) (eCons (e1 tupD (eCons (e1 negD (eC (.int 1))) (eCons (eVar 16) (eNil)))) (eCons (e1 tupD (eCons (eC (.int 1001)) (eCons (eVar 16) (eNil)))) (eNil))))))) (gSet 23) (eTrue) (e2 addD (e2 addD (eSl slT (eVarB 3) (eNone) (e1 asI (eVarB 13))) (e1 listD (eCons (eVar 23) (eNil)))) (eSl slT (eVarB 3) (e1 asI (e2 addD (eVarB 13) (eC (.int 1)))) (eNone))))))
      (sSeq (sSet 17 (e2 addD (eVarB 17) (e1 listD (eCons (e2 addD (eVarB 3) (e1 listD (eCons (e2 ixD (eVarB 3) (eVarB 14)) (eNil)))) (eCons (e2 addD (e1 listD (e1 revL (eVarB 3))) (e1 listD (eCons (e1 tupD (eCons (eC (.int 0)) (eCons (eC (.int 1)) (eNil)))) (eNil)))) (eCons (e1 listD (eNil)) (eCons (e1 listD (eComp [19] (e1 rg1 (eCons (eC (.int 7)) (eNil))) (gSet 19) (eTrue) (e1 tupD (eCons (eVar 19) (eCons (eC (.int 1)) (eNil)))))) (eCons (e2 addD (eSl slT (eVarB 3) (eNone) (e1 asI (eC (.int 1)))) (eSl slT (eVarB 3) (eNone) (e1 asI (eC (.int 1))))) (eNil)))))))))
      (sFor (e1 itL (eVar 17)) (gSet 18)
      (sIf (eOr (eTb (e2 isnD (eCall m_is_belief (eCons (e1 listD (e1 listN (eCons (eVarB 18) eNil))) (eNil))) (eC (.bool false)))) (eTb (e2 neD (e1 listD (eComp [24] (e1 rg1 (eCons (eC (.int 3)) (eNil))) (gSet 24) (eTrue) (eCall m__law_word (eCons (eVar 24) (eCons (e1 listD (e1 listN (eCons (eVarB 18) eNil))) (eNil)))))) (e1 listD (eCons (eC (.int 0)) (eCons (eC (.int 0)) (eCons (eC (.int 0)) (eNil))))))))
      (sRet (eC (.bool false)))
      (sPass)))))))))))))))))))))) [.val a0, .val (intsD ds), .val (.int (k0 : Int)), x3, x4, x5, x6, x7, x8, x9, x10, x11, x12, x13, x14, x15, x16, x17, x18, x19, x20, x21, x22, x23, x24] = .nx ([.val a0, .val (intsD ds), .val (.int (k0 : Int))] ++ z) := by
  obtain ⟨b, hB, hb⟩ := belief_ok hd (k := 10 + 20 * (k0 : Int)) (by omega) (by omega)
  have hl := len_b hb
  obtain ⟨G, hR, hP, hsm⟩ := smooth_in_ok hb
  have hul := unp_len hR
  let sp : Nat → Q := fun t => (unp G).getD t (0, 1)
  have hsp : ∀ t, t < b.length → (unp G)[t]? = some (sp t) := fun t ht => by
    simp only [sp]
    rw [List.getD_eq_getElem?_getD, List.getElem?_eq_getElem (by omega)]
    rfl
  have hG : ∀ t, t < b.length → Good (AA b) (RR b) b.length t (sp t).1 (sp t).2 := fun t ht => by
    have := row_good (AA_dec hb) hR hP (fun p _ => sup_0 p) t (sp t).1 (sp t).2 (hsp t ht)
    rw [Nat.zero_add] at this
    exact this
  have hSL : (unp G).map (fun p => frD (lowQ p)) = (List.range b.length).map fun t => frD (lowQ (sp t)) := by
    apply List.ext_getElem?
    intro t
    rw [List.getElem?_map, List.getElem?_map]
    by_cases h : t < b.length
    · rw [hsp t h, List.getElem?_range h]
      rfl
    · rw [List.getElem?_eq_none (by omega), List.getElem?_eq_none (by simpa using h)]
      rfl
  have hsmo := law_smooth_ok hb sp hG
  rw [← hSL] at hsmo
  have hso : m_smooth_of [belD b] = .ok (.list ((unp G).map fun p => frD (lowQ p))) := by
    have hc := check_ok hb
    generalize belD b = bd at *
    generalize PyData.list ((unp G).map fun p => frD (lowQ p)) = sd at *
    simp [m_smooth_of, hc, hsm]
  have okt : ∀ t, t < b.length → OkQ (sp t) := fun t ht => good_q hb (hG t ht)
  have atS : ∀ t, t < b.length → ((unp G).map fun p => frD (lowQ p))[t]? = some (frD (lowQ (sp t))) := fun t ht => by rw [List.getElem?_map, hsp t ht]; rfl
  -- the best worth
  have hrl : (rw' b).length = b.length := by simp [rw']
  obtain ⟨q, hq, hmq, hmx⟩ := maxP_ok (rw' b) (by omega) (by omega)
  obtain ⟨k, hk, rfl, hk1, hk2⟩ := best_k hb hq hmq
  have hpo := posted_ok hb hk hk1 hk2
  have hS0 := S_pos hb (t := 0) (by omega)
  have hS0b := S_b' hb 0
  have hV0 := V_b hb (t := 0) (by omega)
  have hlow := llow_ok (RR b k) (S b 0) hS0 (by omega)
  have hRk := RR_b hb k
  -- who is struck
  obtain ⟨mx1, mx2, mx3⟩ := mixF_ok (ds := ds) (k := 100 + (k0 : Int)) (many := (b.length : Int)) (by omega) (by omega) (by omega) hd.2
  obtain ⟨a, ha⟩ : ∃ a : Nat, mixF ds (100 + (k0 : Int)) (b.length : Int) = (a : Int) := ⟨_, (Int.toNat_of_nonneg mx2).symm⟩
  rw [ha] at mx1 mx3
  have hal : a < b.length := by omega
  -- sums
  have hRm : RR b b.length = 0 := by unfold RR; rw [S_zero (Nat.le_refl _)]; omega
  have s1 : m__law_sum [.list ((List.range b.length).map fun t => frD (RR b t - RR b (t + 1), 1))] = .ok (frD (RR b 0, 1)) := by
    have h := sum_ints ((List.range b.length).map fun t => RR b t - RR b (t + 1)) (by simp; omega) fun x hx => by
      obtain ⟨t, ht, rfl⟩ := List.mem_map.mp hx
      have := RR_b hb t
      have := RR_b hb (t + 1)
      omega
    have ht := tele (RR b) 0 b.length
    simp only [Nat.zero_add] at ht
    rw [ht, hRm, Int.sub_zero, List.map_map] at h
    rw [e_sum]
    exact h
  let w : Nat → Int := fun t => if t < b.length then Wt b t else 1
  have hw : ∀ t, 0 < w t ∧ w t < 2 ^ 7 := fun t => by
    simp only [w]
    by_cases h : t < b.length
    · rw [if_pos h]; have := W_b hb h; omega
    · rw [if_neg h]; decide
  have hwA : ∀ t, t < b.length → w t = AA b t - AA b (t + 1) := fun t h => by
    simp only [w, if_pos h]
    rw [AA_eq hb (by omega), AA_eq hb (by omega), S_step h]
    omega
  have s2 : m__law_sum [.list ((List.range b.length).map fun t => frD (low (Wt b t * (sp t).1) (sp t).2))] = .ok (frD (RR b 0, 1)) := by
    have hte := terms_eq (A := AA b) (R := RR b) w b.length G 0 hR
    rw [Nat.sub_zero] at hte
    have hL : (List.range b.length).map (fun t => frD (low (Wt b t * (sp t).1) (sp t).2)) = terms w 0 G := by
      rw [hte]
      apply List.map_congr_left
      intro t ht
      have ht := List.mem_range.mp ht
      simp only [w, Nat.zero_add, if_pos ht, sp]
    have hrs := row_sum hb hw hwA (.list ((List.range b.length).map fun t => frD (low (Wt b t * (sp t).1) (sp t).2))) G 0 .un hR
    rw [Int.sub_self, hRm, Int.sub_zero, ← hL] at hrs
    exact sum_loop _ _ hrs
  have tG : ∀ t : Nat, t < b.length → (b.map frD)[t]? = some (frD (V b t, Wt b t)) ∧ ∃ r, ((gl b).map frD)[t]? = some r ∧ m__law_times [frD (Wt b t, 1), r] = .ok (frD (RR b t - RR b (t + 1), 1)) := fun t ht => ⟨at_b ht, _, at_gl ht, by rw [e_times]; exact times_ok hb ht⟩
  have tS : ∀ t : Nat, t < b.length → (b.map frD)[t]? = some (frD (V b t, Wt b t)) ∧ ∃ r, ((unp G).map fun p => frD (lowQ p))[t]? = some r ∧ m__law_times [frD (Wt b t, 1), r] = .ok (frD (low (Wt b t * (sp t).1) (sp t).2)) := fun t ht => ⟨at_b ht, _, atS t ht, by
    have hwt := W_b hb ht
    have hq := okt t ht
    have hden := low_den (n := (sp t).1) hq.2.1
    have hnum := low_num (n := (sp t).1) hq.2.1
    have hval := low_val (n := (sp t).1) hq.2.1
    have h30 := hq.1
    have h30b := hq.2.2
    rw [e_times, ltimes_ok (Wt b t, 1) (lowQ (sp t)) (okMul_of (k := 7) (l := 30) (by show (Wt b t).natAbs < 2 ^ 7; omega) (by show (low _ _).1.natAbs < 2 ^ 30; omega)) (okMul_of (k := 1) (l := 30) (by show (1 : Int).natAbs < 2 ^ 1; decide) (by show (low _ _).2.natAbs < 2 ^ 30; omega)) (by show 0 < 1 * (low _ _).2; omega) (by show 1 * (low _ _).2 < 2 ^ 200; omega)]
    have e : low (Wt b t * (lowQ (sp t)).1) (1 * (lowQ (sp t)).2) = low (Wt b t * (sp t).1) (sp t).2 := by
      refine low_eq (by show 0 < 1 * (low _ _).2; omega) hq.2.1 ?_
      show Wt b t * (low _ _).1 * (sp t).2 = Wt b t * (sp t).1 * (1 * (low _ _).2)
      rw [Int.one_mul, Int.mul_assoc, hval, Int.mul_assoc]
    rw [e]⟩
  -- what is none
  let zl : Q := (V b (b.length - 1), Wt b (b.length - 1))
  let ones : List Q := [(V b a, 0), (V b a, 101), (-1, Wt b a), (1001, Wt b a)]
  let B4 : List Bel := ones.map fun o => b.take a ++ [o] ++ b.drop (a + 1)
  let B5 : List Bel := B4 ++ [b ++ [zl], b.reverse ++ [(0, 1)], [], (List.range 7).map fun (t : Nat) => ((t : Int), (1 : Int)), b.take 1 ++ b.take 1]
  have hbad : ∀ x ∈ B5, isB x = false ∧ x.length ≤ 16777216 := by
    have hone : ∀ o : Q, (o.1 < 0 ∨ 1000 < o.1 ∨ o.2 < 1 ∨ 100 < o.2) → isB (b.take a ++ [o] ++ b.drop (a + 1)) = false ∧ (b.take a ++ [o] ++ b.drop (a + 1)).length ≤ 16777216 := fun o ho => ⟨notB_mem ⟨o, by simp, ho⟩, by simp; omega⟩
    have hbz : b = b.take (b.length - 1) ++ [zl] := by
      have h1 : b.take (b.length - 1 + 1) = b.take (b.length - 1) ++ [b[b.length - 1]'(by omega)] := List.take_succ_eq_append_getElem (by omega)
      rw [show b.length - 1 + 1 = b.length by omega, List.take_length] at h1
      have e : b[b.length - 1]'(by omega) = zl := by
        simp only [zl]
        unfold V Wt
        rw [getD_lt _ (by omega)]
      rw [e] at h1
      exact h1
    have hb0 : b = (V b 0, Wt b 0) :: b.drop 1 := by
      have h1 := List.drop_eq_getElem_cons (l := b) (i := 0) (by omega)
      rw [List.drop_zero] at h1
      unfold V Wt
      rw [getD_lt _ (by omega)]
      exact h1
    intro x hx
    simp only [B5, B4, ones, List.map_cons, List.map_nil, List.mem_append, List.mem_cons, List.not_mem_nil, or_false] at hx
    rcases hx with (rfl | rfl | rfl | rfl) | (rfl | rfl | rfl | rfl | rfl)
    · exact hone _ (.inr (.inr (.inl (by show (0 : Int) < 1; decide))))
    · exact hone _ (.inr (.inr (.inr (by show (100 : Int) < 101; decide))))
    · exact hone _ (.inl (by show (-1 : Int) < 0; decide))
    · exact hone _ (.inr (.inl (by show (1000 : Int) < 1001; decide)))
    · refine ⟨notB_zip zl zl (b.take (b.length - 1)) [] ?_ (by omega), by simp; omega⟩
      rw [List.append_nil]
      conv => lhs; rw [hbz]
      rw [List.append_assoc]
      rfl
    · refine ⟨notB_zip (V b 0, Wt b 0) (0, 1) (b.drop 1).reverse [] ?_ (by show ¬ V b 0 < 0; omega), by simp; omega⟩
      rw [List.append_nil]
      conv => lhs; rw [hb0]
      rw [List.reverse_cons, List.append_assoc]
      rfl
    · exact ⟨notB_len (.inl (by decide)), by decide⟩
    · exact ⟨notB_len (.inr (by simp)), by simp⟩
    · have h1 : b.take 1 = [(V b 0, Wt b 0)] := by
        conv => lhs; rw [hb0]
        rfl
      rw [h1]
      refine ⟨notB_zip (V b 0, Wt b 0) (V b 0, Wt b 0) [] [] rfl (by show ¬ V b 0 < V b 0; omega), by simp⟩
  obtain ⟨yb, hby⟩ := bads_loop B5 (by simp [B5]) hbad
  have hB5 : B5.map belD = B4.map belD ++ [.list (b.map frD ++ [frD zl]), .list ((b.map frD).reverse ++ [frD (0, 1)]), .list [], .list (((List.range 7).map fun (t : Nat) => ((t : Int), (1 : Int))).map frD), .list ((b.map frD).take 1 ++ (b.map frD).take 1)] := by
    simp only [B5, List.map_append, List.map_cons, List.map_nil, belD, List.map_take, List.map_reverse]
  rw [hB5] at hby
  have hB4l : (B4.map belD).length = 4 := rfl
  have hpos : RR b k ≠ 0 → ((((List.range b.length).filter fun t => decide (0 < (lowQ (sp t)).1)).map fun t => PyData.int (V b t)))[0]? = some (.int (V b k)) := fun hne => by
    rw [List.getElem?_map, filter_first _ b.length k hk (by
      have := good_pos hb (hG k hk) hk2 (by omega)
      exact decide_eq_true ((low_pos (okt k hk).2.1).mpr this)) fun t ht => by
      have hn := good_neg hb (hG t (by omega)) hk ht hk1
      exact decide_eq_false fun h => by have := (low_pos (okt t (by omega)).2.1).mp h; omega]
    rfl
  have key := lturn_eval a0 (intsD ds) (k0 : Int) x3 x4 x5 x6 x7 x8 x9 x10 x11 x12 x13 x14 x15 x16 x17 x18 x19 x20 x21 x22 x23 x24 (b.map frD) ((gl b).map frD) ((unp G).map fun p => frD (lowQ p)) (rngL 0 (b.length - 1)) (b.map fun p => .int p.2) ((rw' b).map frD) (rngL 0 b.length) (((List.range b.length).filter fun t => decide (0 < (lowQ (sp t)).1)).map fun t => PyData.int (V b t)) (B4.map belD) (rngL 0 7) (((List.range 7).map fun (t : Nat) => ((t : Int), (1 : Int))).map frD) ((b.map frD).take 1) _ (RR b 0) (S b 0) (V b 0) (Wt b 0) (RR b k) (V b k) (a : Int) (V b a) (Wt b a) (low (RR b k) (S b 0)) (frD zl) yb (b.length : Int)
    (mulD_int (okMul_of (k := 5) (l := 3) (by decide) (by omega))) hB (law_gains_ok hb) hsmo (by have := is_belief_ok b (by omega); rw [hb] at this; exact this) (gains_of_ok hb) (ne_self (shaped_l (gl b))) hso (by have := ne_self (shaped_l ((unp G).map lowQ)); rw [List.map_map] at this; exact this)
    (by simp; omega) (by simp) (by rw [rg1_int _ (by omega) (by omega)]; congr 2; omega)
    (fun ρ hρ h5 => c1_ok _ (b.length - 1) ρ hρ h5 fun t ht => ⟨_, _, atS (t + 1) (by omega), atS t (by omega), by
      have h := less_ok (okt (t + 1) (by omega)) (okt t (by omega))
      have hu := good_up hb (hG t (by omega)) (hG (t + 1) (by omega))
      rw [decide_eq_false (by omega)] at h
      exact h⟩)
    (fun ρ hρ h3 => c2o_ok _ _ _ b.length (Wt b) (V b) _ _ _ _ ρ hρ h3 (by simp) (by omega) tG tS s1 s2)
    (at_b (by omega)) (okMul_of (k := 10) (l := 10) (by omega) (by omega)) rfl (fun ρ hρ => weights_comp (b := b) (t := 0) 15 16 (by decide) ρ (by omega) (by omega)) (by
      have := sum_map b (·.2)
      have e : (b.map fun p => p.2).sum = S b 0 := by unfold S; rw [List.drop_zero]
      rw [e] at this
      exact this)
    (fun ρ hρ h3 => c4_ok hb ρ hρ h3) hmx (by rw [e_low]; exact hlow) hpo (by rw [rg1_int _ (by omega) (by omega)]; simp) (fun ρ hρ h3 h5 => c5_ok _ _ b.length _ (V b) (Wt b) ρ hρ h3 h5 fun t ht => ⟨at_b ht, lowQ (sp t), atS t ht, rfl⟩)
    hpos mx1 (by rw [Pf.atI_nat]; exact at_b hal) (fun ρ hρ h3 h13 => c6_ok (b := b) (by omega) a ones ρ hρ h3 h13)
    (by rw [show (b.length : Int) - 1 = ((b.length - 1 : Nat) : Int) by omega, Pf.atI_nat]; exact at_b (by omega)) (addD_list _ _ (by simp; omega)) (addD_list _ _ (by simp; omega)) (rg1_int 7 (by decide) (by decide)) (fun ρ hρ => c7_ok ρ hρ) (cut_to _ 1) (addD_list _ _ (by simp; omega)) (addD_list _ _ (by rw [hB4l]; exact (by decide : 4 + 5 ≤ 16777216))) hby
  obtain ⟨y10, y11, key⟩ := key
  exact ⟨_, rfl, key⟩
theorem ret_ok (ρ : Ro) : (sRet (eBool (eAnd (eTb (eCall m_is_belief (eCons (e1 listD (eCons (e1 tupD (eCons (eC (.int 0)) (eCons (eC (.int 1)) (eNil)))) (eNil))) (eNil)))) (eAnd (eTb (eCall m_is_belief (eCons (e1 listD (eCons (e1 tupD (eCons (eC (.int 1000)) (eCons (eC (.int 100)) (eNil)))) (eNil))) (eNil)))) (eAnd (eTb (e2 isD (eCall m_posted (eCons (e1 listD (eCons (e1 tupD (eCons (eC (.int 0)) (eCons (eC (.int 5)) (eNil)))) (eNil))) (eNil))) (eC .none))) (eTb (e2 eqD (eCall m_gains_of (eCons (e1 listD (eCons (e1 tupD (eCons (eC (.int 3)) (eCons (eC (.int 1)) (eNil)))) (eCons (e1 tupD (eCons (eC (.int 5)) (eCons (eC (.int 1)) (eNil)))) (eNil)))) (eNil))) (e1 listD (eCons (e1 tupD (eCons (eC (.int 1)) (eCons (eC (.int 1)) (eNil)))) (eCons (e1 tupD (eCons (eC (.int 5)) (eCons (eC (.int 1)) (eNil)))) (eNil))))))))))) ρ = .ret (.bool true) := by kernel_rfl
theorem plain : ∀ ns : List Int, ns.length ≤ 63 → m_law [scr ns] = .ok (.bool true) := by
  intro ns hn
  obtain ⟨ds, hdr, hd⟩ := draws_ok ns hn
  let I : Nat → Ro → Prop := fun i ρ => ∃ (k : Sl) (z : List Sl), z.length = 22 ∧ ρ = [.val (scr ns), .val (intsD ds), k] ++ z
  obtain ⟨ρ', h1, k, z, hz, rfl⟩ := forF_inv (g := gSet 2) (b := (sSeq (sSet 3 (eCall m__law_belief (eCons (eVar 1) (eCons (e2 addD (eC (.int 10)) (e2 mulD (eC (.int 20)) (eVarB 2))) (eNil)))))
      (sSeq (sSet 4 (eCall m__law_gains (eCons (eVar 3) (eNil))))
      (sSeq (sSet 5 (eCall m__law_smooth (eCons (eVar 3) (eCons (eVar 4) (eNil)))))
      (sSeq (sIf (eOr (eTb (e2 isnD (eCall m_is_belief (eCons (e1 listD (e1 listN (eCons (eVarB 3) eNil))) (eNil))) (eC (.bool true)))) (eOr (eTb (e2 neD (eCall m_gains_of (eCons (e1 listD (e1 listN (eCons (eVarB 3) eNil))) (eNil))) (eVarB 4))) (eTb (e2 neD (eCall m_smooth_of (eCons (e1 listD (e1 listN (eCons (eVarB 3) eNil))) (eNil))) (eVarB 5)))))
      (sRet (eC (.bool false)))
      (sPass))
      (sSeq (sIf (eTb (e2 neD (e1 listD (eComp [19] (e1 rg1 (eCons (e2 subD (e1 lenD (eCons (eVarB 5) eNil)) (eC (.int 1))) (eNil))) (gSet 19) (eTb (eCall m__law_is_less (eCons (e2 ixD (eVarB 5) (e2 addD (eVarB 19) (eC (.int 1)))) (eCons (e2 ixD (eVarB 5) (eVarB 19)) (eNil))))) (eVar 19))) (e1 listD (eNil))))
      (sRet (eC (.bool false)))
      (sPass))
      (sSeq (sSet 6 (e1 listD (eComp [20] (e1 itL (e1 listD (eCons (eVar 4) (eCons (eVar 5) (eNil))))) (gSet 20) (eTrue) (eCall m__law_sum (eCons (e1 listD (eComp [19] (e1 rg1 (eCons (e1 lenD (eCons (eVarB 3) eNil)) (eNil))) (gSet 19) (eTrue) (eCall m__law_times (eCons (e1 tupD (eCons (e2 ixD (e2 ixD (eVarB 3) (eVarB 19)) (eC (.int 1))) (eCons (eC (.int 1)) (eNil)))) (eCons (e2 ixD (eVarB 20) (eVarB 19)) (eNil)))))) (eNil))))))
      (sSeq (sIf (eOr (eTb (e2 neD (e2 ixD (eVarB 6) (eC (.int 0))) (e2 ixD (eVarB 6) (eC (.int 1))))) (eTb (e2 neD (e2 ixD (eVarB 6) (eC (.int 0))) (e1 tupD (eCons (e2 mulD (e2 ixD (e2 ixD (eVarB 3) (eC (.int 0))) (eC (.int 0))) (e1 sumD (eCons (e1 listD (eComp [15, 16] (e1 itL (eVarB 3)) (gUnp (gsCons (gSet 15) (gsCons (gSet 16) (gsNil)))) (eTrue) (eVar 16))) eNil))) (eCons (eC (.int 1)) (eNil)))))))
      (sRet (eC (.bool false)))
      (sPass))
      (sSeq (sSet 7 (e1 sumD (eCons (e1 listD (eComp [15, 16] (e1 itL (eVarB 3)) (gUnp (gsCons (gSet 15) (gsCons (gSet 16) (gsNil)))) (eTrue) (eVar 16))) eNil)))
      (sSeq (sSet 8 (e1 listD (eComp [15, 16] (e1 itL (eVarB 3)) (gUnp (gsCons (gSet 15) (gsCons (gSet 16) (gsNil)))) (eTrue) (e1 tupD (eCons (e2 mulD (eVarB 15) (e1 sumD (eCons (e1 listD (eComp [21, 22] (e1 itL (eVarB 3)) (gUnp (gsCons (gSet 21) (gsCons (gSet 22) (gsNil)))) (eTb (e2 geD (eVarB 21) (eVarB 15))) (eVar 22))) eNil))) (eCons (eVar 15) (eNil)))))))
      (sSeq (sSet 9 (e1 maxTD (eCons (eVarB 8) eNil)))
      (sSeq (sSet 10 (e2 ixD (e1 listD (eCons (eCall m__law_low (eCons (e2 ixD (eVarB 9) (eC (.int 0))) (eCons (eVar 7) (eNil)))) (eCons (eC .none) (eNil)))) (e1 intD (eCons (e2 eqD (e2 ixD (eVarB 9) (eC (.int 0))) (eC (.int 0))) eNil))))
      (sSeq (sSet 11 (eCall m_posted (eCons (e1 listD (e1 listN (eCons (eVarB 3) eNil))) (eNil))))
      (sSeq (sIf (eOr (eTb (e2 neD (e2 isD (eVarB 11) (eC .none)) (e2 isD (eVarB 10) (eC .none)))) (eAnd (eTb (e2 isnD (eVarB 11) (eC .none))) (eTb (e2 neD (eVarB 11) (e1 tupD (eCons (e2 ixD (eVarB 9) (eC (.int 1))) (eCons (eVar 10) (eNil))))))))
      (sRet (eC (.bool false)))
      (sPass))
      (sSeq (sSet 12 (e1 listD (eComp [19] (e1 rg1 (eCons (e1 lenD (eCons (eVarB 3) eNil)) (eNil))) (gSet 19) (eTb (e2 gtD (e2 ixD (e2 ixD (eVarB 5) (eVarB 19)) (eC (.int 0))) (eC (.int 0)))) (e2 ixD (e2 ixD (eVarB 3) (eVarB 19)) (eC (.int 0))))))
      (sSeq (sIf (eAnd (eTb (e2 isnD (eVarB 11) (eC .none))) (eTb (e2 neD (e2 ixD (eVarB 11) (eC (.int 0))) (e2 ixD (eVarB 12) (eC (.int 0))))))
      (sRet (eC (.bool false)))
      (sPass))
      (sSeq (sAsg (gUnp (gsCons (gSet 13) (gsCons (gSet 14) (gsNil)))) (e1 tupD (eCons (eCall m__law_mix (eCons (eVar 1) (eCons (e2 addD (eC (.int 100)) (eVarB 2)) (eCons (e1 lenD (eCons (eVarB 3) eNil)) (eNil))))) (eCons (e2 subD (e1 lenD (eCons (eVarB 3) eNil)) (eC (.int 1))) (eNil)))))
      (sSeq (sAsg (gUnp (gsCons (gSet 15) (gsCons (gSet 16) (gsNil)))) (e2 ixD (eVarB 3) (eVarB 13)))
      (sSeq (sSet 17 (e1 listD (eComp [23] (e1 itL (e1 listD (eCons (e1 tupD (eCons (eVar 15) (eCons (eC (.int 0)) (eNil)))) (eCons (e1 tupD (eCons (eVar 15) (eCons (eC (.int 101)) (eNil)))) (eCons (e1 tupD (eCons (e1 negD (eC (.int 1))) (eCons (eVar 16) (eNil)))) (eCons (e1 tupD (eCons (eC (.int 1001)) (eCons (eVar 16) (eNil)))) (eNil))))))) (gSet 23) (eTrue) (e2 addD (e2 addD (eSl slT (eVarB 3) (eNone) (e1 asI (eVarB 13))) (e1 listD (eCons (eVar 23) (eNil)))) (eSl slT (eVarB 3) (e1 asI (e2 addD (eVarB 13) (eC (.int 1)))) (eNone))))))
      (sSeq (sSet 17 (e2 addD (eVarB 17) (e1 listD (eCons (e2 addD (eVarB 3) (e1 listD (eCons (e2 ixD (eVarB 3) (eVarB 14)) (eNil)))) (eCons (e2 addD (e1 listD (e1 revL (eVarB 3))) (e1 listD (eCons (e1 tupD (eCons (eC (.int 0)) (eCons (eC (.int 1)) (eNil)))) (eNil)))) (eCons (e1 listD (eNil)) (eCons (e1 listD (eComp [19] (e1 rg1 (eCons (eC (.int 7)) (eNil))) (gSet 19) (eTrue) (e1 tupD (eCons (eVar 19) (eCons (eC (.int 1)) (eNil)))))) (eCons (e2 addD (eSl slT (eVarB 3) (eNone) (e1 asI (eC (.int 1)))) (eSl slT (eVarB 3) (eNone) (e1 asI (eC (.int 1))))) (eNil)))))))))
      (sFor (e1 itL (eVar 17)) (gSet 18)
      (sIf (eOr (eTb (e2 isnD (eCall m_is_belief (eCons (e1 listD (e1 listN (eCons (eVarB 18) eNil))) (eNil))) (eC (.bool false)))) (eTb (e2 neD (e1 listD (eComp [24] (e1 rg1 (eCons (eC (.int 3)) (eNil))) (gSet 24) (eTrue) (eCall m__law_word (eCons (eVar 24) (eCons (e1 listD (e1 listN (eCons (eVarB 18) eNil))) (eNil)))))) (e1 listD (eCons (eC (.int 0)) (eCons (eC (.int 0)) (eCons (eC (.int 0)) (eNil))))))))
      (sRet (eC (.bool false)))
      (sPass))))))))))))))))))))))) I (rngL 0 4) 0 [.val (scr ns), .val (intsD ds), .un, .un, .un, .un, .un, .un, .un, .un, .un, .un, .un, .un, .un, .un, .un, .un, .un, .un, .un, .un, .un, .un, .un] ⟨.un, List.replicate 22 .un, rfl, rfl⟩ (by
    rintro t d ρ hj ⟨k, z, hz, rfl⟩
    obtain ⟨ht, rfl⟩ := rngL_get hj
    rw [Int.zero_add]
    match z, hz with
    | [x3, x4, x5, x6, x7, x8, x9, x10, x11, x12, x13, x14, x15, x16, x17, x18, x19, x20, x21, x22, x23, x24], _ =>
      obtain ⟨z', hz', he⟩ := turn_ok hd (scr ns) t ht x3 x4 x5 x6 x7 x8 x9 x10 x11 x12 x13 x14 x15 x16 x17 x18 x19 x20 x21 x22 x23 x24
      exact ⟨_, _, rfl, .inl he, _, z', hz', rfl⟩)
  have hr : rg1 [.int 4] = some (rngL 0 4) := rg1_int 4 (by decide) (by decide)
  have e : m_law [scr ns] = outR ((sSeq (sSet 1 (eCall m__law_draws (eCons (eVar 0) (eNil))))
      (sSeq (sFor (e1 rg1 (eCons (eC (.int 4)) (eNil))) (gSet 2)
      (sSeq (sSet 3 (eCall m__law_belief (eCons (eVar 1) (eCons (e2 addD (eC (.int 10)) (e2 mulD (eC (.int 20)) (eVarB 2))) (eNil)))))
      (sSeq (sSet 4 (eCall m__law_gains (eCons (eVar 3) (eNil))))
      (sSeq (sSet 5 (eCall m__law_smooth (eCons (eVar 3) (eCons (eVar 4) (eNil)))))
      (sSeq (sIf (eOr (eTb (e2 isnD (eCall m_is_belief (eCons (e1 listD (e1 listN (eCons (eVarB 3) eNil))) (eNil))) (eC (.bool true)))) (eOr (eTb (e2 neD (eCall m_gains_of (eCons (e1 listD (e1 listN (eCons (eVarB 3) eNil))) (eNil))) (eVarB 4))) (eTb (e2 neD (eCall m_smooth_of (eCons (e1 listD (e1 listN (eCons (eVarB 3) eNil))) (eNil))) (eVarB 5)))))
      (sRet (eC (.bool false)))
      (sPass))
      (sSeq (sIf (eTb (e2 neD (e1 listD (eComp [19] (e1 rg1 (eCons (e2 subD (e1 lenD (eCons (eVarB 5) eNil)) (eC (.int 1))) (eNil))) (gSet 19) (eTb (eCall m__law_is_less (eCons (e2 ixD (eVarB 5) (e2 addD (eVarB 19) (eC (.int 1)))) (eCons (e2 ixD (eVarB 5) (eVarB 19)) (eNil))))) (eVar 19))) (e1 listD (eNil))))
      (sRet (eC (.bool false)))
      (sPass))
      (sSeq (sSet 6 (e1 listD (eComp [20] (e1 itL (e1 listD (eCons (eVar 4) (eCons (eVar 5) (eNil))))) (gSet 20) (eTrue) (eCall m__law_sum (eCons (e1 listD (eComp [19] (e1 rg1 (eCons (e1 lenD (eCons (eVarB 3) eNil)) (eNil))) (gSet 19) (eTrue) (eCall m__law_times (eCons (e1 tupD (eCons (e2 ixD (e2 ixD (eVarB 3) (eVarB 19)) (eC (.int 1))) (eCons (eC (.int 1)) (eNil)))) (eCons (e2 ixD (eVarB 20) (eVarB 19)) (eNil)))))) (eNil))))))
      (sSeq (sIf (eOr (eTb (e2 neD (e2 ixD (eVarB 6) (eC (.int 0))) (e2 ixD (eVarB 6) (eC (.int 1))))) (eTb (e2 neD (e2 ixD (eVarB 6) (eC (.int 0))) (e1 tupD (eCons (e2 mulD (e2 ixD (e2 ixD (eVarB 3) (eC (.int 0))) (eC (.int 0))) (e1 sumD (eCons (e1 listD (eComp [15, 16] (e1 itL (eVarB 3)) (gUnp (gsCons (gSet 15) (gsCons (gSet 16) (gsNil)))) (eTrue) (eVar 16))) eNil))) (eCons (eC (.int 1)) (eNil)))))))
      (sRet (eC (.bool false)))
      (sPass))
      (sSeq (sSet 7 (e1 sumD (eCons (e1 listD (eComp [15, 16] (e1 itL (eVarB 3)) (gUnp (gsCons (gSet 15) (gsCons (gSet 16) (gsNil)))) (eTrue) (eVar 16))) eNil)))
      (sSeq (sSet 8 (e1 listD (eComp [15, 16] (e1 itL (eVarB 3)) (gUnp (gsCons (gSet 15) (gsCons (gSet 16) (gsNil)))) (eTrue) (e1 tupD (eCons (e2 mulD (eVarB 15) (e1 sumD (eCons (e1 listD (eComp [21, 22] (e1 itL (eVarB 3)) (gUnp (gsCons (gSet 21) (gsCons (gSet 22) (gsNil)))) (eTb (e2 geD (eVarB 21) (eVarB 15))) (eVar 22))) eNil))) (eCons (eVar 15) (eNil)))))))
      (sSeq (sSet 9 (e1 maxTD (eCons (eVarB 8) eNil)))
      (sSeq (sSet 10 (e2 ixD (e1 listD (eCons (eCall m__law_low (eCons (e2 ixD (eVarB 9) (eC (.int 0))) (eCons (eVar 7) (eNil)))) (eCons (eC .none) (eNil)))) (e1 intD (eCons (e2 eqD (e2 ixD (eVarB 9) (eC (.int 0))) (eC (.int 0))) eNil))))
      (sSeq (sSet 11 (eCall m_posted (eCons (e1 listD (e1 listN (eCons (eVarB 3) eNil))) (eNil))))
      (sSeq (sIf (eOr (eTb (e2 neD (e2 isD (eVarB 11) (eC .none)) (e2 isD (eVarB 10) (eC .none)))) (eAnd (eTb (e2 isnD (eVarB 11) (eC .none))) (eTb (e2 neD (eVarB 11) (e1 tupD (eCons (e2 ixD (eVarB 9) (eC (.int 1))) (eCons (eVar 10) (eNil))))))))
      (sRet (eC (.bool false)))
      (sPass))
      (sSeq (sSet 12 (e1 listD (eComp [19] (e1 rg1 (eCons (e1 lenD (eCons (eVarB 3) eNil)) (eNil))) (gSet 19) (eTb (e2 gtD (e2 ixD (e2 ixD (eVarB 5) (eVarB 19)) (eC (.int 0))) (eC (.int 0)))) (e2 ixD (e2 ixD (eVarB 3) (eVarB 19)) (eC (.int 0))))))
      (sSeq (sIf (eAnd (eTb (e2 isnD (eVarB 11) (eC .none))) (eTb (e2 neD (e2 ixD (eVarB 11) (eC (.int 0))) (e2 ixD (eVarB 12) (eC (.int 0))))))
      (sRet (eC (.bool false)))
      (sPass))
      (sSeq (sAsg (gUnp (gsCons (gSet 13) (gsCons (gSet 14) (gsNil)))) (e1 tupD (eCons (eCall m__law_mix (eCons (eVar 1) (eCons (e2 addD (eC (.int 100)) (eVarB 2)) (eCons (e1 lenD (eCons (eVarB 3) eNil)) (eNil))))) (eCons (e2 subD (e1 lenD (eCons (eVarB 3) eNil)) (eC (.int 1))) (eNil)))))
      (sSeq (sAsg (gUnp (gsCons (gSet 15) (gsCons (gSet 16) (gsNil)))) (e2 ixD (eVarB 3) (eVarB 13)))
      (sSeq (sSet 17 (e1 listD (eComp [23] (e1 itL (e1 listD (eCons (e1 tupD (eCons (eVar 15) (eCons (eC (.int 0)) (eNil)))) (eCons (e1 tupD (eCons (eVar 15) (eCons (eC (.int 101)) (eNil)))) (eCons (e1 tupD (eCons (e1 negD (eC (.int 1))) (eCons (eVar 16) (eNil)))) (eCons (e1 tupD (eCons (eC (.int 1001)) (eCons (eVar 16) (eNil)))) (eNil))))))) (gSet 23) (eTrue) (e2 addD (e2 addD (eSl slT (eVarB 3) (eNone) (e1 asI (eVarB 13))) (e1 listD (eCons (eVar 23) (eNil)))) (eSl slT (eVarB 3) (e1 asI (e2 addD (eVarB 13) (eC (.int 1)))) (eNone))))))
      (sSeq (sSet 17 (e2 addD (eVarB 17) (e1 listD (eCons (e2 addD (eVarB 3) (e1 listD (eCons (e2 ixD (eVarB 3) (eVarB 14)) (eNil)))) (eCons (e2 addD (e1 listD (e1 revL (eVarB 3))) (e1 listD (eCons (e1 tupD (eCons (eC (.int 0)) (eCons (eC (.int 1)) (eNil)))) (eNil)))) (eCons (e1 listD (eNil)) (eCons (e1 listD (eComp [19] (e1 rg1 (eCons (eC (.int 7)) (eNil))) (gSet 19) (eTrue) (e1 tupD (eCons (eVar 19) (eCons (eC (.int 1)) (eNil)))))) (eCons (e2 addD (eSl slT (eVarB 3) (eNone) (e1 asI (eC (.int 1)))) (eSl slT (eVarB 3) (eNone) (e1 asI (eC (.int 1))))) (eNil)))))))))
      (sFor (e1 itL (eVar 17)) (gSet 18)
      (sIf (eOr (eTb (e2 isnD (eCall m_is_belief (eCons (e1 listD (e1 listN (eCons (eVarB 18) eNil))) (eNil))) (eC (.bool false)))) (eTb (e2 neD (e1 listD (eComp [24] (e1 rg1 (eCons (eC (.int 3)) (eNil))) (gSet 24) (eTrue) (eCall m__law_word (eCons (eVar 24) (eCons (e1 listD (e1 listN (eCons (eVarB 18) eNil))) (eNil)))))) (e1 listD (eCons (eC (.int 0)) (eCons (eC (.int 0)) (eCons (eC (.int 0)) (eNil))))))))
      (sRet (eC (.bool false)))
      (sPass)))))))))))))))))))))))
      (sRet (eBool (eAnd (eTb (eCall m_is_belief (eCons (e1 listD (eCons (e1 tupD (eCons (eC (.int 0)) (eCons (eC (.int 1)) (eNil)))) (eNil))) (eNil)))) (eAnd (eTb (eCall m_is_belief (eCons (e1 listD (eCons (e1 tupD (eCons (eC (.int 1000)) (eCons (eC (.int 100)) (eNil)))) (eNil))) (eNil)))) (eAnd (eTb (e2 isD (eCall m_posted (eCons (e1 listD (eCons (e1 tupD (eCons (eC (.int 0)) (eCons (eC (.int 5)) (eNil)))) (eNil))) (eNil))) (eC .none))) (eTb (e2 eqD (eCall m_gains_of (eCons (e1 listD (eCons (e1 tupD (eCons (eC (.int 3)) (eCons (eC (.int 1)) (eNil)))) (eCons (e1 tupD (eCons (eC (.int 5)) (eCons (eC (.int 1)) (eNil)))) (eNil)))) (eNil))) (e1 listD (eCons (e1 tupD (eCons (eC (.int 1)) (eCons (eC (.int 1)) (eNil)))) (eCons (e1 tupD (eCons (eC (.int 5)) (eCons (eC (.int 1)) (eNil)))) (eNil))))))))))))) [.val (scr ns), .un, .un, .un, .un, .un, .un, .un, .un, .un, .un, .un, .un, .un, .un, .un, .un, .un, .un, .un, .un, .un, .un, .un, .un]) := rfl
  rw [e, sSeq_eq, sSet_eq]
  have f1 : eCall m__law_draws (eCons (eVar 0) eNil) [.val (scr ns), .un, .un, .un, .un, .un, .un, .un, .un, .un, .un, .un, .un, .un, .un, .un, .un, .un, .un, .un, .un, .un, .un, .un, .un] = .ok (intsD ds) := by
    rw [← e_draws] at hdr
    exact hdr
  rw [f1, Res.out_ok, Out.seq_nx, sSeq_eq, sFor_eq]
  rw [show e1 rg1 (eCons (eC (.int 4)) eNil) (List.set [.val (scr ns), .un, .un, .un, .un, .un, .un, .un, .un, .un, .un, .un, .un, .un, .un, .un, .un, .un, .un, .un, .un, .un, .un, .un, .un] 1 (.val (intsD ds))) = ofO (rg1 [.int 4]) from rfl, hr, ofO_some, Res.out_ok]
  rw [show (List.set [.val (scr ns), .un, .un, .un, .un, .un, .un, .un, .un, .un, .un, .un, .un, .un, .un, .un, .un, .un, .un, .un, .un, .un, .un, .un, .un] 1 (.val (intsD ds)) : Ro) = [.val (scr ns), .val (intsD ds), .un, .un, .un, .un, .un, .un, .un, .un, .un, .un, .un, .un, .un, .un, .un, .un, .un, .un, .un, .un, .un, .un, .un] from rfl, h1, Out.seq_nx, ret_ok]
  rfl
end K06
namespace K06
open PySem PySem.Spec PyProof.Rows L2 Pf

abbrev R : PySem.W.OpenRow := PySem.W.OpenLaw.row PySem.Challenge.rw_truebidsbest_k06_main_beliefs_smoothed_b
abbrev hk : PySem.W.Hook := hookP 4 wt
def ob (s : PySem.W.SharedT) : AlP := obsPG 4 wt (HandSHeadRun.getT s)
theorem ob_eq (s : PySem.W.SharedT) : ob s = hk.obs s.abs := obsPG_eq (HandSHeadRun.getT_eq s)
theorem run (w : World) : HandSHeadRun.RunEq R (PySem.W.view R.prog [36]) hk ob 100000 names w := by
  intro os
  kernel_rfl
theorem facts {w : World} {K : PySem.W.Frag} {h : Heap} {mg : Str → Option Value} {f : Addr} (X : K.In h) (G : h.Ns mainGlobals mg) (hfa : mg ("law" : Str) = some (.ref f)) (c : SaysP wt K) :
    ∃ fd : FuncData, (∀ (s : Shared) (v : Value), BindsTo s fd ⟨[v], []⟩ [("script", v)]) ∧ ∀ base : Heap, FnOk PP w K mg base CX0 7 f fd ["script"] (fun vs H Q _ => spOf K mg 1 m_law vs H Q (fun _ _ _ => False)) := by
  have m : M K mg := ⟨⟨h, X, G⟩, c⟩
  obtain ⟨fd, F⟩ := m.fn_law
  have e := hfa.symm.trans m.gl_law
  cases e
  have b := FunD.bindsA (ps := ["script"]) F fun _ _ _ _ _ _ us hl => match us, hl with | [_], _ => rfl
  exact ⟨fd, fun s v => b s [v] rfl, fun base => fn_close (ok_law m F)⟩
end K06
open PySem PySem.W PySem.Calls PyProof.Rows
theorem PySem.Challenge.cw_truebidsbest_k06_main_beliefs_smoothed_b_holds : PySem.Challenge.rw_truebidsbest_k06_main_beliefs_smoothed_b.Holds := by
  w_on; o_law
  refine HandSHeadRun.head_any (r := OpenLaw.row PySem.Challenge.rw_truebidsbest_k06_main_beliefs_smoothed_b) (q := view (OpenLaw.row PySem.Challenge.rw_truebidsbest_k06_main_beliefs_smoothed_b).prog [36]) (H := K06.hk) (ob := K06.ob) (M := 100000) (loose := K06.names) (d := HandSHeadRun.topDef (OpenLaw.row PySem.Challenge.rw_truebidsbest_k06_main_beliefs_smoothed_b).prog 36) (kwd := []) K06.ob_eq
    (by kernel_rfl) (fun s => by kernel_rfl) K06.run (by kernel_rfl) (by kernel_rfl) (by kernel_rfl) (by rfl) (by first | assumption | decide +kernel) (by decide +kernel) ⟨rfl, rfl, rfl, rfl, rfl, by decide +kernel⟩ ?hw ?hc
  case hw => w_witness2
  case hc =>
    refine L2.walk_ofE (l := PySem.Challenge.rw_truebidsbest_k06_main_beliefs_smoothed_b) (n := 63) (k := 7) (x := "script") (CX := L2.CX0) rfl (by decide) (by kernel_rfl) ⟨rfl, by decide, by decide⟩ ?F (fun _ _ _ _ z => z)
    intro w mg fa h Y G hmg0
    obtain ⟨K, KX, c⟩ := Y
    have hmg : mg ("law" : PySem.Str) = some (.ref fa) := by
      have e : (HandSHeadRun.topDef (OpenLaw.row PySem.Challenge.rw_truebidsbest_k06_main_beliefs_smoothed_b).prog 36).name = ("law" : PySem.Str) := by kernel_rfl
      rw [← e]
      exact hmg0
    obtain ⟨fd, hb, hF⟩ := K06.facts (w := w) KX G hmg c
    exact ⟨K, fd, (fun vs H Q _ => Pf.spOf K mg 1 K06.m_law vs H Q (fun _ _ _ => False)), KX, hb, fun H a ns hl hO hS => Pf.sp_law K06.plain H a ns hl hO hS, fun base _ _ => hF base⟩
