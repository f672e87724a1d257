import PyProof.Rows.All
import Wide.All
import OpenK.AllK
import Wide.FinOn
import KE.KStateDown
import Lean
import HandS.ForMost
import HandS.ForExc
import HandS.TryMany
import HandS.Wide
import HandS.Flow
import HandS.Style
import HandS.SortInts
import HandS.Conv
import HandS.ExcField
import KE.KExcSuper
import HandS.ExcInit
import KE.DataCmp
import HandS.Strs
import HandS.Star
import HandS.FltList
import HandS.Set
import HandS.Defaults
import HandS.HeadHook2
import HandS.Head0
import HandS.Head1
import HandS.Head2
import HandS.HeadEnd
import HandS.Deep
import KE.SortData
import HandS.ExcValue
import KE.DataMinMax
import PySem.Challenge.RW_truebidsbest_k42_main_rules_and_rounds_o
set_option Elab.async false
set_option linter.all false
set_option maxRecDepth 100000
set_option maxHeartbeats 0
set_option autoImplicit false
/-! Pf1: data in regions, slots, readings by plain functions. -/
namespace Pf
open PySem PySem.Spec PyProof.Rows L2

/-! ### answers -/
inductive Res (α : Type) where
  | ok (a : α)
  | exc (c : Str) (k : Int)
  | bad
def Res.bind {α β : Type} : Res α → (α → Res β) → Res β
  | .ok a, f => f a
  | .exc c k, _ => .exc c k
  | .bad, _ => .bad
def ofO {α : Type} : Option α → Res α
  | some a => .ok a
  | none => .bad
def Res.opt {α : Type} : Res α → Option α
  | .ok a => some a
  | _ => none
@[simp] theorem Res.bind_ok {α β : Type} (a : α) (f : α → Res β) : (Res.ok a).bind f = f a := rfl
@[simp] theorem Res.bind_exc {α β : Type} (c : Str) (k : Int) (f : α → Res β) : (Res.exc c k).bind f = .exc c k := rfl
@[simp] theorem Res.bind_bad {α β : Type} (f : α → Res β) : (Res.bad).bind f = .bad := rfl
@[simp] theorem ofO_some {α : Type} (a : α) : ofO (some a) = .ok a := rfl
@[simp] theorem ofO_none {α : Type} : ofO (none : Option α) = .bad := rfl
@[simp] theorem Res.opt_ok {α : Type} (a : α) : (Res.ok a).opt = some a := rfl

/-! ### data in a region -/
abbrev Rg := Addr → Prop
/-- a list, a tuple of the written part -/
def StL (K : PySem.W.Frag) (a : Addr) (xs : List V) : Prop :=
  ∃ (o : Obj) (its : Array Value) (n : Nat), K.lookup a = some o ∧ o.cls = .type "list" ∧ o.dict = none ∧ o.data = .seq its n ∧ its.size ≤ sizeLine ∧ Vals xs its.toList
def StT (K : PySem.W.Frag) (a : Addr) (xs : List V) : Prop :=
  ∃ (o : Obj) (its : Array Value) (n : Nat), K.lookup a = some o ∧ o.cls = .type "tuple" ∧ o.data = .seq its n ∧ its.size ≤ sizeLine ∧ Vals xs its.toList
theorem StL.sq {K : PySem.W.Frag} {a : Addr} {xs : List V} (h : StL K a xs) (H : Hp) : SqL K H a xs := .inr h
theorem StT.sq {K : PySem.W.Frag} {a : Addr} {xs : List V} (h : StT K a xs) (H : Hp) : SqT K H a xs := .inr h
/-- the law's script, as a datum of its own -/
abbrev scr (ns : List Int) : PyData := .dict (ns.map fun n => (PyData.none, PyData.int n))
mutual
inductive Rp (K : PySem.W.Frag) (F : Rg) (H : Hp) : V → PyData → Prop
  | non : Rp K F H .non .none
  | bl (b : Bool) : Rp K F H (.bl b) (.bool b)
  | int (i : Int) : Rp K F H (.int i) (.int i)
  | str (x : Str) : Rp K F H (.str x) (.str x)
  | lst {a : Addr} {xs : List V} {ds : List PyData} : F a → H a = some (.lst xs) → Rps K F H xs ds → Rp K F H (.ref a) (.list ds)
  | scr {a : Addr} {o : Obj} {ns : List Int} : F a → H a = some (.frz o (.lst (ns.map V.int))) → Rp K F H (.ref a) (.dict (ns.map fun n => (PyData.none, PyData.int n)))
  | scrK {a : Addr} {ns : List Int} : StL K a (ns.map V.int) → Rp K F H (.ref a) (.dict (ns.map fun n => (PyData.none, PyData.int n)))
  | tup {a : Addr} {xs : List V} {ds : List PyData} : F a → H a = some (.tup xs) → Rps K F H xs ds → Rp K F H (.ref a) (.tuple ds)
  | tupK {a : Addr} {xs : List V} {ds : List PyData} : StT K a xs → Rps K F H xs ds → Rp K F H (.ref a) (.tuple ds)
inductive Rps (K : PySem.W.Frag) (F : Rg) (H : Hp) : List V → List PyData → Prop
  | nil : Rps K F H [] []
  | cons {v : V} {vs : List V} {d : PyData} {ds : List PyData} : Rp K F H v d → Rps K F H vs ds → Rps K F H (v :: vs) (d :: ds)
end
section
variable {K : PySem.W.Frag} {F F' : Rg} {H H' : Hp}
theorem SqL.keepF {a : Addr} {xs : List V} (k : ∀ o, H a = some o → H' a = some o) (h : SqL K H a xs) : SqL K H' a xs := by
  rcases h with (h | ⟨o, h⟩) | h
  · exact .inl (.inl (k _ h))
  · exact .inl (.inr ⟨o, k _ h⟩)
  · exact .inr h
theorem SqT.keepF {a : Addr} {xs : List V} (k : ∀ o, H a = some o → H' a = some o) (h : SqT K H a xs) : SqT K H' a xs := by
  rcases h with (h | ⟨o, h⟩) | h
  · exact .inl (.inl (k _ h))
  · exact .inl (.inr ⟨o, k _ h⟩)
  · exact .inr h
mutual
theorem Rp.mono (s : ∀ a, F a → F' a) (k : ∀ a, F a → ∀ o, H a = some o → H' a = some o) : ∀ (d : PyData) (v : V), Rp K F H v d → Rp K F' H' v d
  | .none, _, h => by cases h; exact .non
  | .bool b, _, h => by cases h; exact .bl b
  | .int i, _, h => by cases h; exact .int i
  | .str x, _, h => by cases h; exact .str x
  | .list ds, _, h => by
    cases h with
    | lst f q r => exact .lst (s _ f) (k _ f _ q) (Rps.mono s k ds _ r)
  | .tuple ds, _, h => by
    cases h with
    | tup f q r => exact .tup (s _ f) (k _ f _ q) (Rps.mono s k ds _ r)
    | tupK q r => exact .tupK q (Rps.mono s k ds _ r)
  | .dict _, _, h => by
    cases h with
    | scr f q => exact .scr (s _ f) (k _ f _ q)
    | scrK q => exact .scrK q
theorem Rps.mono (s : ∀ a, F a → F' a) (k : ∀ a, F a → ∀ o, H a = some o → H' a = some o) : ∀ (ds : List PyData) (vs : List V), Rps K F H vs ds → Rps K F' H' vs ds
  | [], _, h => by cases h; exact .nil
  | d :: ds, _, h => by
    cases h with
    | cons a b => exact .cons (Rp.mono s k d _ a) (Rps.mono s k ds _ b)
end
mutual
theorem Rp.dp : ∀ (d : PyData) (v : V), d.canLay0 = true → Rp K F H v d → Dp K H v d
  | .none, _, _, h => by cases h; exact .non
  | .bool b, _, _, h => by cases h; exact .bl b
  | .int i, _, _, h => by cases h; exact .int i
  | .str x, _, _, h => by cases h; exact .str x
  | .list ds, _, c, h => by
    cases h with
    | lst f q r => exact .lst (SqL.of q) (Rps.dp ds _ (by simpa [PyData.canLay0] using c) r)
  | .tuple ds, _, c, h => by
    cases h with
    | tup f q r => exact .tup (SqT.of q) (Rps.dp ds _ (by simpa [PyData.canLay0] using c) r)
    | tupK q r => exact .tup (q.sq H) (Rps.dp ds _ (by simpa [PyData.canLay0] using c) r)
  | .dict _, _, c, h => by simp [PyData.canLay0] at c
theorem Rps.dp : ∀ (ds : List PyData) (vs : List V), PyData.canLayAll0 ds = true → Rps K F H vs ds → DpAll K H vs ds
  | [], _, _, h => by cases h; exact .nil
  | d :: ds, _, c, h => by
    have c' : d.canLay0 = true ∧ PyData.canLayAll0 ds = true := by simpa [PyData.canLayAll0] using c
    cases h with
    | cons a b => exact .cons (Rp.dp d _ c'.1 a) (Rps.dp ds _ c'.2 b)
end
theorem Rps.length : ∀ {ds : List PyData} {vs : List V}, Rps K F H vs ds → vs.length = ds.length
  | [], _, h => by cases h; rfl
  | d :: ds, _, h => by
    cases h with
    | cons a b => simp [Rps.length b]
theorem Rps.get : ∀ {ds : List PyData} {vs : List V} {i : Nat} {d : PyData}, Rps K F H vs ds → ds[i]? = some d → ∃ v, vs[i]? = some v ∧ Rp K F H v d
  | [], _, _, _, h, e => by simp at e
  | d :: ds, _, 0, _, h, e => by
    cases h with
    | cons a b => simp at e; subst e; exact ⟨_, rfl, a⟩
  | d :: ds, _, i + 1, _, h, e => by
    cases h with
    | cons a b => exact Rps.get (i := i) b (by simpa using e)
theorem Rps.append : ∀ {ds es : List PyData} {vs ws : List V}, Rps K F H vs ds → Rps K F H ws es → Rps K F H (vs ++ ws) (ds ++ es)
  | [], _, _, _, h, g => by cases h; exact g
  | d :: ds, _, _, _, h, g => by
    cases h with
    | cons a b => exact .cons a (Rps.append b g)
theorem Rps.take : ∀ {ds : List PyData} {vs : List V} (n : Nat), Rps K F H vs ds → Rps K F H (vs.take n) (ds.take n)
  | _, _, 0, _ => by simp; exact .nil
  | [], _, _ + 1, h => by cases h; exact .nil
  | d :: ds, _, n + 1, h => by
    cases h with
    | cons a b => exact .cons a (Rps.take n b)
theorem Rps.drop : ∀ {ds : List PyData} {vs : List V} (n : Nat), Rps K F H vs ds → Rps K F H (vs.drop n) (ds.drop n)
  | _, _, 0, h => by simpa using h
  | [], _, _ + 1, h => by cases h; exact .nil
  | d :: ds, _, n + 1, h => by
    cases h with
    | cons a b => exact Rps.drop n b
theorem Rps.reverse : ∀ {ds : List PyData} {vs : List V}, Rps K F H vs ds → Rps K F H vs.reverse ds.reverse
  | [], _, h => by cases h; exact .nil
  | d :: ds, _, h => by
    cases h with
    | cons a b => rw [List.reverse_cons, List.reverse_cons]; exact Rps.append (Rps.reverse b) (.cons a .nil)
theorem Rps.set : ∀ {ds : List PyData} {vs : List V} {v : V} {d : PyData} (i : Nat), Rp K F H v d → Rps K F H vs ds → Rps K F H (vs.set i v) (ds.set i d)
  | [], _, _, _, _, _, h => by cases h; exact .nil
  | _ :: ds, _, _, _, 0, r, h => by
    cases h with
    | cons a b => exact .cons r b
  | _ :: ds, _, _, _, i + 1, r, h => by
    cases h with
    | cons a b => exact .cons a (Rps.set i r b)
/-- all ints -/
theorem Rps.ints : ∀ {ns : List Int} {vs : List V}, Rps K F H vs (ns.map PyData.int) → vs = ns.map V.int
  | [], _, h => by cases h; rfl
  | n :: ns, _, h => by
    cases h with
    | cons a b => cases a; rw [Rps.ints b]; rfl
theorem Rps.bools : ∀ {ns : List Bool} {vs : List V}, Rps K F H vs (ns.map PyData.bool) → vs = ns.map V.bl
  | [], _, h => by cases h; rfl
  | n :: ns, _, h => by
    cases h with
    | cons a b => cases a; rw [Rps.bools b]; rfl
theorem Rps.of_ints : ∀ {ns : List Int}, Rps K F H (ns.map V.int) (ns.map PyData.int)
  | [] => .nil
  | n :: ns => .cons (.int n) Rps.of_ints

/-- what may be read: in the region, or a list that the frame alone holds -/
inductive RpB (K : PySem.W.Frag) (F : Rg) (H : Hp) : V → PyData → Prop
  | rp {v : V} {d : PyData} : Rp K F H v d → RpB K F H v d
  | own {a : Addr} {xs : List V} {ds : List PyData} : H a = some (.lst xs) → Rps K F H xs ds → RpB K F H (.ref a) (.list ds)
theorem RpB.dp {v : V} {d : PyData} (c : d.canLay0 = true) (h : RpB K F H v d) : Dp K H v d := by
  cases h with
  | rp h => exact Rp.dp _ _ c h
  | own a b => exact .lst (SqL.of a) (Rps.dp _ _ (by simpa [PyData.canLay0] using c) b)
theorem RpB.list {v : V} {ds : List PyData} (h : RpB K F H v (.list ds)) : ∃ a xs, v = .ref a ∧ H a = some (.lst xs) ∧ Rps K F H xs ds := by
  cases h with
  | rp h => cases h with
    | lst f q r => exact ⟨_, _, rfl, q, r⟩
  | own a b => exact ⟨_, _, rfl, a, b⟩
theorem map_scr_inj {ns ms : List Int} (h : ns.map (fun n => (PyData.none, PyData.int n)) = ms.map (fun n => (PyData.none, PyData.int n))) : ns = ms := by
  have := congrArg (List.map fun p : PyData × PyData => match p.2 with | .int i => i | _ => 0) h
  simpa [List.map_map, Function.comp_def] using this
theorem RpB.script {v : V} {ns : List Int} (h : RpB K F H v (scr ns)) : ∃ a, v = .ref a ∧ SqL K H a (ns.map V.int) := by
  cases h with
  | rp h =>
    generalize e : scr ns = d at h
    cases h with
    | scr f q =>
      have e2 := map_scr_inj (PyData.dict.inj e)
      subst e2
      exact ⟨_, rfl, .inl (.inr ⟨_, q⟩)⟩
    | scrK q =>
      have e2 := map_scr_inj (PyData.dict.inj e)
      subst e2
      exact ⟨_, rfl, q.sq H⟩
    | _ => cases e
theorem RpB.tuple {v : V} {ds : List PyData} (h : RpB K F H v (.tuple ds)) : ∃ a xs, v = .ref a ∧ SqT K H a xs ∧ Rps K F H xs ds := by
  cases h with
  | rp h => cases h with
    | tup f q r => exact ⟨_, _, rfl, SqT.of q, r⟩
    | tupK q r => exact ⟨_, _, rfl, q.sq H, r⟩
theorem RpB.int' {v : V} {i : Int} (h : RpB K F H v (.int i)) : v = .int i := by
  cases h with
  | rp h => cases h; rfl
theorem RpB.bool' {v : V} {i : Bool} (h : RpB K F H v (.bool i)) : v = .bl i := by
  cases h with
  | rp h => cases h; rfl
theorem RpB.str' {v : V} {i : Str} (h : RpB K F H v (.str i)) : v = .str i := by
  cases h with
  | rp h => cases h; rfl
theorem RpB.none' {v : V} (h : RpB K F H v .none) : v = .non := by
  cases h with
  | rp h => cases h; rfl

/-! ### steps -/
structure Stp (F : Rg) (H : Hp) (F' : Rg) (H' : Hp) : Prop where
  sub : ∀ a, F a → F' a
  keep : Same H H'
  new : ∀ a, F' a → F a ∨ (H a = none ∧ H' a ≠ none)
theorem Same.some {H1 H2 : Hp} (s : Same H1 H2) {a : Addr} (h : H1 a ≠ none) : H2 a ≠ none := by
  cases e : H1 a with
  | none => exact absurd e h
  | some o => rw [s a o e]; simp
theorem Stp.refl : Stp F H F H := ⟨fun _ h => h, Same.refl _, fun _ h => .inl h⟩
theorem Stp.trans {F1 F2 F3 : Rg} {H1 H2 H3 : Hp} (a : Stp F1 H1 F2 H2) (b : Stp F2 H2 F3 H3) : Stp F1 H1 F3 H3 :=
  ⟨fun x h => b.sub x (a.sub x h), a.keep.trans b.keep, fun x h => (b.new x h).elim (fun q => (a.new x q).imp id fun z => ⟨z.1, Same.some b.keep z.2⟩) fun q => .inr ⟨a.keep.free q.1, q.2⟩⟩
theorem Rp.stp {v : V} {d : PyData} (s : Stp F H F' H') (h : Rp K F H v d) : Rp K F' H' v d := Rp.mono s.sub (fun a _ o => s.keep a o) _ _ h
theorem Rps.stp {v : List V} {d : List PyData} (s : Stp F H F' H') (h : Rps K F H v d) : Rps K F' H' v d := Rps.mono s.sub (fun a _ o => s.keep a o) _ _ h
theorem RpB.stp {v : V} {d : PyData} (s : Stp F H F' H') (h : RpB K F H v d) : RpB K F' H' v d := by
  cases h with
  | rp h => exact .rp (h.stp s)
  | own a b => exact .own (s.keep _ _ a) (b.stp s)
/-- what is kept of the region -/
structure FK (F : Rg) (H : Hp) (F' : Rg) (H' : Hp) : Prop where
  sub : ∀ a, F a → F' a
  keep : ∀ a, F a → ∀ o, H a = some o → H' a = some o
theorem FK.refl : FK F H F H := ⟨fun _ h => h, fun _ _ _ h => h⟩
theorem FK.trans {F1 F2 F3 : Rg} {H1 H2 H3 : Hp} (a : FK F1 H1 F2 H2) (b : FK F2 H2 F3 H3) : FK F1 H1 F3 H3 :=
  ⟨fun x h => b.sub x (a.sub x h), fun x h o e => b.keep x (a.sub x h) o (a.keep x h o e)⟩
theorem Stp.fk (s : Stp F H F' H') : FK F H F' H' := ⟨s.sub, fun a _ o => s.keep a o⟩
theorem Rp.fk {v : V} {d : PyData} (s : FK F H F' H') (h : Rp K F H v d) : Rp K F' H' v d := Rp.mono s.sub s.keep _ _ h
theorem Rps.fk {v : List V} {d : List PyData} (s : FK F H F' H') (h : Rps K F H v d) : Rps K F' H' v d := Rps.mono s.sub s.keep _ _ h
end

/-! ### slots -/
inductive Sl where
  | un
  | val (d : PyData)
  | own (ds : List PyData)
abbrev Ro := List Sl
structure Ste (K : PySem.W.Frag) (B : Hp) (F0 F : Rg) (H : Hp) (σ : L2.St) (ρ : Ro) : Prop where
  same : Same B H
  reg : ∀ a, F a → F0 a ∨ B a = none
  sub : ∀ a, F0 a → F a
  trk : ∀ a, F a → H a ≠ none
  len : σ.length = ρ.length
  val : ∀ (i : Nat) (d : PyData), ρ[i]? = some (.val d) → ∃ v, σ[i]? = some (some v) ∧ Rp K F H v d
  own : ∀ (i : Nat) (ds : List PyData), ρ[i]? = some (.own ds) → ∃ a xs, σ[i]? = some (some (.ref a)) ∧ ¬ F a ∧ B a = none ∧ H a = some (.lst xs) ∧ Rps K F H xs ds
  sep : ∀ (i j : Nat) (ds es : List PyData) (a : Addr), i ≠ j → ρ[i]? = some (.own ds) → ρ[j]? = some (.own es) → σ[i]? = some (some (.ref a)) → σ[j]? ≠ some (some (.ref a))
section
variable {K : PySem.W.Frag} {B : Hp} {F0 F F' : Rg} {H H' : Hp} {σ : L2.St} {ρ : Ro}
theorem Ste.stp (S : Ste K B F0 F H σ ρ) (s : Stp F H F' H') : Ste K B F0 F' H' σ ρ where
  same := S.same.trans s.keep
  reg := fun a h => (s.new a h).elim (fun q => S.reg a q) fun q => .inr (S.same.free q.1)
  sub := fun a h => s.sub a (S.sub a h)
  trk := fun a h => (s.new a h).elim (fun q => Same.some s.keep (S.trk a q)) fun q => q.2
  len := S.len
  val := fun i d e => let ⟨v, h1, h2⟩ := S.val i d e; ⟨v, h1, h2.stp s⟩
  own := fun i ds e => by
    obtain ⟨a, xs, h1, h2, h3, h4, h5⟩ := S.own i ds e
    exact ⟨a, xs, h1, (fun q => (s.new a q).elim h2 fun z => by have z := z.1; rw [h4] at z; cases z), h3, s.keep _ _ h4, h5.stp s⟩
  sep := S.sep
theorem getset_ne {α : Type} {l : List α} {i j : Nat} {x : α} (h : i ≠ j) : (l.set i x)[j]? = l[j]? := List.getElem?_set_ne h
theorem getset_some {α : Type} {l : List α} {i j : Nat} {x y : α} (e : (l.set i x)[j]? = some y) : (i = j ∧ x = y ∧ i < l.length) ∨ (i ≠ j ∧ l[j]? = some y) := by
  by_cases h : i = j
  · subst h
    by_cases hl : i < l.length
    · rw [List.getElem?_set_self hl] at e; cases e; exact .inl ⟨rfl, rfl, hl⟩
    · rw [List.getElem?_eq_none (by simpa using hl)] at e; cases e
  · rw [getset_ne h] at e; exact .inr ⟨h, e⟩
/-- a slot is stored -/
theorem Ste.set_val {i : Nat} {v : V} {d : PyData} (S : Ste K B F0 F H σ ρ) (r : Rp K F H v d) : Ste K B F0 F H (σ.set i (some v)) (ρ.set i (.val d)) where
  same := S.same
  reg := S.reg
  sub := S.sub
  trk := S.trk
  len := by rw [List.length_set, List.length_set]; exact S.len
  val := fun j e h => by
    rcases getset_some h with ⟨rfl, q, hl⟩ | ⟨hn, h⟩
    · cases q; exact ⟨v, List.getElem?_set_self (by rw [S.len]; exact hl), r⟩
    · obtain ⟨w, h1, h2⟩ := S.val j e h
      exact ⟨w, by rw [getset_ne hn]; exact h1, h2⟩
  own := fun j e h => by
    rcases getset_some h with ⟨rfl, q, hl⟩ | ⟨hn, h⟩
    · cases q
    · obtain ⟨a, xs, h1, h2⟩ := S.own j e h
      exact ⟨a, xs, by rw [getset_ne hn]; exact h1, h2⟩
  sep := fun j k ds es a hjk h1 h2 h3 => by
    rcases getset_some h1 with ⟨rfl, q, hl⟩ | ⟨hn, h1⟩
    · cases q
    · rcases getset_some h2 with ⟨rfl, q, hl⟩ | ⟨hn2, h2⟩
      · cases q
      · rw [getset_ne hn] at h3; rw [getset_ne hn2]; exact S.sep j k ds es a hjk h1 h2 h3
/-- a slot is forgotten -/
theorem Ste.set_un {i : Nat} {o : Option V} (S : Ste K B F0 F H σ ρ) : Ste K B F0 F H (σ.set i o) (ρ.set i .un) where
  same := S.same
  reg := S.reg
  sub := S.sub
  trk := S.trk
  len := by rw [List.length_set, List.length_set]; exact S.len
  val := fun j e h => by
    rcases getset_some h with ⟨rfl, q, hl⟩ | ⟨hn, h⟩
    · cases q
    · obtain ⟨w, h1, h2⟩ := S.val j e h
      exact ⟨w, by rw [getset_ne hn]; exact h1, h2⟩
  own := fun j e h => by
    rcases getset_some h with ⟨rfl, q, hl⟩ | ⟨hn, h⟩
    · cases q
    · obtain ⟨a, xs, h1, h2⟩ := S.own j e h
      exact ⟨a, xs, by rw [getset_ne hn]; exact h1, h2⟩
  sep := fun j k ds es a hjk h1 h2 h3 => by
    rcases getset_some h1 with ⟨rfl, q, hl⟩ | ⟨hn, h1⟩
    · cases q
    · rcases getset_some h2 with ⟨rfl, q, hl⟩ | ⟨hn2, h2⟩
      · cases q
      · rw [getset_ne hn] at h3; rw [getset_ne hn2]; exact S.sep j k ds es a hjk h1 h2 h3
/-- a new list of one's own: at a, that no slot has -/
theorem Ste.set_own {i : Nat} {a : Addr} {xs : List V} {ds : List PyData} (S : Ste K B F0 F H σ ρ) (hF : ¬ F a) (hB : B a = none) (hH : H a = some (.lst xs)) (r : Rps K F H xs ds)
    (hn : ∀ (j : Nat) (es : List PyData), j ≠ i → ρ[j]? = some (.own es) → σ[j]? ≠ some (some (.ref a))) : Ste K B F0 F H (σ.set i (some (.ref a))) (ρ.set i (.own ds)) where
  same := S.same
  reg := S.reg
  sub := S.sub
  trk := S.trk
  len := by rw [List.length_set, List.length_set]; exact S.len
  val := fun j e h => by
    rcases getset_some h with ⟨rfl, q, hl⟩ | ⟨hn, h⟩
    · cases q
    · obtain ⟨w, h1, h2⟩ := S.val j e h
      exact ⟨w, by rw [getset_ne hn]; exact h1, h2⟩
  own := fun j e h => by
    rcases getset_some h with ⟨rfl, q, hl⟩ | ⟨hn, h⟩
    · cases q; exact ⟨a, xs, List.getElem?_set_self (by rw [S.len]; exact hl), hF, hB, hH, r⟩
    · obtain ⟨b, xs, h1, h2⟩ := S.own j e h
      exact ⟨b, xs, by rw [getset_ne hn]; exact h1, h2⟩
  sep := fun j k ds es b hjk h1 h2 h3 => by
    rcases getset_some h1 with ⟨rfl, q, hl⟩ | ⟨hn1, h1⟩
    · rcases getset_some h2 with ⟨rfl, q2, hl2⟩ | ⟨hn2, h2⟩
      · exact absurd rfl hjk
      · rw [List.getElem?_set_self (by rw [S.len]; exact hl)] at h3
        cases h3
        rw [getset_ne hn2]
        exact hn k es (Ne.symm hjk) h2
    · rcases getset_some h2 with ⟨rfl, q2, hl2⟩ | ⟨hn2, h2⟩
      · rw [getset_ne hn1] at h3
        rw [List.getElem?_set_self (by rw [S.len]; exact hl2)]
        intro z
        cases z
        exact hn j ds hjk h1 h3
      · rw [getset_ne hn1] at h3; rw [getset_ne hn2]; exact S.sep j k ds es b hjk h1 h2 h3
/-- a list of one's own is written -/
theorem Ste.write {i : Nat} {a : Addr} {ys : List V} {ds es : List PyData} (S : Ste K B F0 F H σ ρ) (e : ρ[i]? = some (.own ds)) (hs : σ[i]? = some (some (.ref a))) (r : Rps K F H ys es) :
    Ste K B F0 F (upd H a (.lst ys)) σ (ρ.set i (.own es)) ∧ FK F H F (upd H a (.lst ys)) := by
  obtain ⟨a', xs, h1, h2, h3, h4, h5⟩ := S.own i ds e
  rw [hs] at h1
  have ea : a = a' := by injection h1 with h1; injection h1 with h1; injection h1
  subst ea
  have fk : FK F H F (upd H a (.lst ys)) := ⟨fun _ h => h, fun b hb o q => by rw [upd_ne (show b ≠ a from fun z => by rw [z] at hb; exact h2 hb)]; exact q⟩
  refine ⟨⟨fun b o q => ?_, S.reg, S.sub, fun b hb => by rw [upd_ne (show b ≠ a from fun z => by rw [z] at hb; exact h2 hb)]; exact S.trk b hb, by rw [List.length_set]; exact S.len, fun j d h => ?_, fun j es' h => ?_, fun j k ds' es' b hjk q1 q2 q3 => ?_⟩, fk⟩
  · have : b ≠ a := fun z => by rw [z, h3] at q; cases q
    rw [upd_ne this]; exact S.same b o q
  · rcases getset_some h with ⟨rfl, q, hl⟩ | ⟨hn, h⟩
    · cases q
    · obtain ⟨w, g1, g2⟩ := S.val j d h
      exact ⟨w, g1, g2.fk fk⟩
  · rcases getset_some h with ⟨rfl, q, hl⟩ | ⟨hn, h⟩
    · cases q; exact ⟨a, ys, hs, h2, h3, upd_same, r.fk fk⟩
    · obtain ⟨b, zs, g1, g2, g3, g4, g5⟩ := S.own j es' h
      have hb : b ≠ a := fun z => by
        rw [z] at g1
        exact S.sep i j ds es' a hn e h hs g1
      exact ⟨b, zs, g1, g2, g3, by rw [upd_ne hb]; exact g4, g5.fk fk⟩
  · have old : ∀ {m : Nat} {zs : List PyData}, (ρ.set i (.own es))[m]? = some (.own zs) → ∃ zs', ρ[m]? = some (.own zs') := fun {m zs} h => by
      rcases getset_some h with ⟨rfl, q, hl⟩ | ⟨hn, h⟩
      · exact ⟨ds, e⟩
      · exact ⟨zs, h⟩
    obtain ⟨z1, q1⟩ := old q1
    obtain ⟨z2, q2⟩ := old q2
    exact S.sep j k z1 z2 b hjk q1 q2 q3
/-- an own list is let go into the region -/
def frz1 (i : Nat) (ρ : Ro) : Ro := match ρ[i]? with
  | some (.own ds) => ρ.set i (.val (.list ds))
  | _ => ρ
def frz : List Nat → Ro → Ro
  | [], ρ => ρ
  | i :: is, ρ => frz is (frz1 i ρ)
theorem Ste.frz1 (S : Ste K B F0 F H σ ρ) (i : Nat) : ∃ F', Ste K B F0 F' H σ (frz1 i ρ) ∧ FK F H F' H := by
  unfold Pf.frz1
  split
  · rename_i ds e
    obtain ⟨a, xs, h1, h2, h3, h4, h5⟩ := S.own i ds e
    have fk : FK F H (fun b => F b ∨ b = a) H := ⟨fun _ h => .inl h, fun _ _ _ q => q⟩
    refine ⟨fun b => F b ∨ b = a, ⟨S.same, fun b hb => ?_, fun b hb => .inl (S.sub b hb), (fun b hb => hb.elim (S.trk b) fun z => by rw [z, h4]; simp), by rw [List.length_set]; exact S.len, fun j d h => ?_, fun j es h => ?_, fun j k ds' es' b hjk q1 q2 q3 => ?_⟩, fk⟩
    · rcases hb with hb | rfl
      · exact S.reg b hb
      · exact .inr h3
    · rcases getset_some h with ⟨rfl, q, hl⟩ | ⟨hn, h⟩
      · cases q; exact ⟨_, h1, .lst (.inr rfl) h4 (h5.fk fk)⟩
      · obtain ⟨w, g1, g2⟩ := S.val j d h
        exact ⟨w, g1, g2.fk fk⟩
    · rcases getset_some h with ⟨rfl, q, hl⟩ | ⟨hn, h⟩
      · cases q
      · obtain ⟨b, zs, g1, g2, g3, g4, g5⟩ := S.own j es h
        refine ⟨b, zs, g1, fun z => ?_, g3, g4, g5.fk fk⟩
        rcases z with z | z
        · exact g2 z
        · rw [z] at g1; exact S.sep i j ds es a hn e h h1 g1
    · rcases getset_some q1 with ⟨rfl, q, hl⟩ | ⟨hn, q1⟩
      · cases q
      · rcases getset_some q2 with ⟨rfl, q, hl⟩ | ⟨hn2, q2⟩
        · cases q
        · exact S.sep j k ds' es' b hjk q1 q2 q3
  · exact ⟨F, S, FK.refl⟩
theorem Ste.frz : ∀ (is : List Nat) {F : Rg} {ρ : Ro}, Ste K B F0 F H σ ρ → ∃ F', Ste K B F0 F' H σ (frz is ρ) ∧ FK F H F' H
  | [], F, ρ, S => ⟨F, S, FK.refl⟩
  | i :: is, F, ρ, S => by
    obtain ⟨F1, S1, k1⟩ := S.frz1 i
    obtain ⟨F2, S2, k2⟩ := Ste.frz is S1
    exact ⟨F2, S2, k1.trans k2⟩
def wipeR (ρ : Ro) : List Nat → Ro
  | [] => ρ
  | i :: is => (wipeR ρ is).set i .un
theorem Ste.wipe (S : Ste K B F0 F H σ ρ) : ∀ is : List Nat, Ste K B F0 F H (wipe σ is) (wipeR ρ is)
  | [] => S
  | i :: is => by unfold L2.wipe wipeR; exact (S.wipe is).set_un
theorem Ste.weak {σ' : L2.St} (S : Ste K B F0 F H σ ρ) (hl : σ'.length = σ.length) (h : ∀ (i : Nat) (x : V), σ[i]? = some (some x) → σ'[i]? = some (some x)) (h2 : ∀ (i : Nat) (x : V), σ'[i]? = some (some x) → σ[i]? = some (some x)) : Ste K B F0 F H σ' ρ where
  same := S.same
  reg := S.reg
  sub := S.sub
  trk := S.trk
  len := hl.trans S.len
  val := fun i d e => let ⟨v, a, b⟩ := S.val i d e; ⟨v, h i v a, b⟩
  own := fun i ds e => let ⟨a, xs, g, r⟩ := S.own i ds e; ⟨a, xs, h i _ g, r⟩
  sep := fun i j ds es a hij e1 e2 e3 e4 => S.sep i j ds es a hij e1 e2 (h2 i _ e3) (h2 j _ e4)
end
end Pf
/-! Pf2: readings by plain functions; expressions. -/
namespace Pf
open PySem PySem.Spec PyProof.Rows L2

/-! ### readings -/
def PostE (mg : Str → Option Value) (W : WX) (σ : L2.St) (H : Hp) {α : Type} (P : α → Prop) : Res α → Prop
  | .ok a => P a
  | .exc c k => ∀ (H' : Hp) (dx C : Addr), Same H H' → H' dx = some (.xd [("at", .int k)]) → mg c = some (.ref C) → W (.ref C) (some dx) σ H'
  | .bad => False
section
variable (K : PySem.W.Frag) (mg : Str → Option Value) (W : WX)
def tE {α : Type} (Rel : Rg → Hp → Rg → Hp → V → α → Prop) (f : Ro → Res α) : TE := fun σ H Q =>
  ∃ (B : Hp) (F0 F : Rg) (ρ : Ro), Ste K B F0 F H σ ρ ∧ PostE mg W σ H (fun a => ∀ F' H' v, Stp F H F' H' → Rel F H F' H' v a → Q v H') (f ρ)
/-- in the region | to be read | a new list | a bool -/
abbrev RF : Rg → Hp → Rg → Hp → V → PyData → Prop := fun _ _ F' H' v d => Rp K F' H' v d
abbrev RB : Rg → Hp → Rg → Hp → V → PyData → Prop := fun _ _ F' H' v d => RpB K F' H' v d
abbrev RN : Rg → Hp → Rg → Hp → V → List PyData → Prop := fun _ H F' H' v ds => ∃ a xs, v = .ref a ∧ H a = none ∧ ¬ F' a ∧ H' a = some (.lst xs) ∧ Rps K F' H' xs ds
abbrev tF (f : Ro → Res PyData) : TE := tE K mg W (RF K) f
abbrev tB (f : Ro → Res PyData) : TE := tE K mg W (RB K) f
abbrev tN (f : Ro → Res (List PyData)) : TE := tE K mg W (RN K) f
def tTs (f : Ro → Res Bool) : TT := fun σ H Q =>
  ∃ (B : Hp) (F0 F : Rg) (ρ : Ro), Ste K B F0 F H σ ρ ∧ PostE mg W σ H (fun b => ∀ F' H', Stp F H F' H' → Q b H') (f ρ)
def tAs (f : Ro → Res (List PyData)) : TA := fun σ H Q =>
  ∃ (B : Hp) (F0 F : Rg) (ρ : Ro), Ste K B F0 F H σ ρ ∧ PostE mg W σ H (fun ds => ∀ F' H' vs, Stp F H F' H' → Rps K F' H' vs ds → Q vs H') (f ρ)
/-- arguments that are only read -/
inductive RpBs (F : Rg) (H : Hp) : List V → List PyData → Prop
  | nil : RpBs F H [] []
  | cons {v : V} {vs : List V} {d : PyData} {ds : List PyData} : RpB K F H v d → RpBs F H vs ds → RpBs F H (v :: vs) (d :: ds)
def tABs (f : Ro → Res (List PyData)) : TA := fun σ H Q =>
  ∃ (B : Hp) (F0 F : Rg) (ρ : Ro), Ste K B F0 F H σ ρ ∧ PostE mg W σ H (fun ds => ∀ F' H' vs, Stp F H F' H' → RpBs K F' H' vs ds → Q vs H') (f ρ)
end
section
variable {K : PySem.W.Frag} {mg : Str → Option Value} {W : WX} {σ : L2.St} {H : Hp} {B : Hp} {F0 F : Rg} {ρ : Ro}
theorem PostE.mono {H1 : Hp} {α : Type} {P : α → Prop} {r : Res α} (s : Same H H1) (h : PostE mg W σ H P r) : PostE mg W σ H1 P r := by
  cases r with
  | ok a => exact h
  | exc c k => exact fun H' dx C q => h H' dx C (s.trans q)
  | bad => exact h
theorem PostE.imp {α : Type} {P P' : α → Prop} {r : Res α} (h : PostE mg W σ H P r) (f : ∀ a, P a → P' a) : PostE mg W σ H P' r := by
  cases r with
  | ok a => exact f a h
  | exc c k => exact h
  | bad => exact h
theorem PostE.ofO {α : Type} {P : α → Prop} {r : Option α} (h : PostE mg W σ H P (ofO r)) : ∃ a, r = some a ∧ P a := by
  cases r with
  | none => exact h.elim
  | some a => exact ⟨a, rfl, h⟩
theorem tE.mk {α β : Type} {Rel : Rg → Hp → Rg → Hp → V → α → Prop} {f : Ro → Res α} {r : α → Res β} {P : β → Prop} {Q : VK} (S : Ste K B F0 F H σ ρ) (p : PostE mg W σ H P ((f ρ).bind r))
    (h : ∀ a F' H' v, f ρ = .ok a → Stp F H F' H' → Rel F H F' H' v a → PostE mg W σ H P (r a) → Q v H') : tE K mg W Rel f σ H Q := by
  refine ⟨B, F0, F, ρ, S, ?_⟩
  cases e : f ρ with
  | ok a => rw [e] at p; exact fun F' H' v s r => h a F' H' v e s r p
  | exc c k => rw [e] at p; exact p
  | bad => rw [e] at p; exact p
theorem tTs.mk {β : Type} {f : Ro → Res Bool} {r : Bool → Res β} {P : β → Prop} {Q : Bool → Hp → Prop} (S : Ste K B F0 F H σ ρ) (p : PostE mg W σ H P ((f ρ).bind r))
    (h : ∀ a F' H', f ρ = .ok a → Stp F H F' H' → PostE mg W σ H P (r a) → Q a H') : tTs K mg W f σ H Q := by
  refine ⟨B, F0, F, ρ, S, ?_⟩
  cases e : f ρ with
  | ok a => rw [e] at p; exact fun F' H' s => h a F' H' e s p
  | exc c k => rw [e] at p; exact p
  | bad => rw [e] at p; exact p
theorem tAs.mk {β : Type} {f : Ro → Res (List PyData)} {r : List PyData → Res β} {P : β → Prop} {Q : List V → Hp → Prop} (S : Ste K B F0 F H σ ρ) (p : PostE mg W σ H P ((f ρ).bind r))
    (h : ∀ a F' H' vs, f ρ = .ok a → Stp F H F' H' → Rps K F' H' vs a → PostE mg W σ H P (r a) → Q vs H') : tAs K mg W f σ H Q := by
  refine ⟨B, F0, F, ρ, S, ?_⟩
  cases e : f ρ with
  | ok a => rw [e] at p; exact fun F' H' v s r => h a F' H' v e s r p
  | exc c k => rw [e] at p; exact p
  | bad => rw [e] at p; exact p
theorem tABs.mk {β : Type} {f : Ro → Res (List PyData)} {r : List PyData → Res β} {P : β → Prop} {Q : List V → Hp → Prop} (S : Ste K B F0 F H σ ρ) (p : PostE mg W σ H P ((f ρ).bind r))
    (h : ∀ a F' H' vs, f ρ = .ok a → Stp F H F' H' → RpBs K F' H' vs a → PostE mg W σ H P (r a) → Q vs H') : tABs K mg W f σ H Q := by
  refine ⟨B, F0, F, ρ, S, ?_⟩
  cases e : f ρ with
  | ok a => rw [e] at p; exact fun F' H' v s r => h a F' H' v e s r p
  | exc c k => rw [e] at p; exact p
  | bad => rw [e] at p; exact p
theorem RpBs.one {vs : List V} {d : PyData} (h : RpBs K F H vs [d]) : ∃ v, vs = [v] ∧ RpB K F H v d := by
  cases h with
  | cons a b => cases b; exact ⟨_, rfl, a⟩
theorem RpBs.two {vs : List V} {d e : PyData} (h : RpBs K F H vs [d, e]) : ∃ v w, vs = [v, w] ∧ RpB K F H v d ∧ RpB K F H w e := by
  cases h with
  | cons a b =>
    cases b with
    | cons a' b => cases b; exact ⟨_, _, rfl, a, a'⟩
/-- a new object in the region -/
theorem Stp.add {a : Addr} {o : HO} (h : H a = none) : Stp F H (fun b => F b ∨ b = a) (upd H a o) :=
  ⟨fun _ q => .inl q, fun b o' q => by rw [upd_ne (ne_of_none q h)]; exact q, fun b q => q.elim .inl fun z => .inr (by rw [z]; exact ⟨h, by rw [upd_same]; simp⟩)⟩
theorem Stp.lay {a : Addr} {o : HO} (h : H a = none) : Stp F H F (upd H a o) :=
  ⟨fun _ q => q, fun b o' q => by rw [upd_ne (ne_of_none q h)]; exact q, fun b q => .inl q⟩
theorem Stp.lay0 : Stp F H F H := Stp.refl
end

section
variable {X : Cx}
theorem _root_.L2.PE.imp {e : Expr} {t t' : TE} (h : PE X e t) (i : ∀ σ H Q, t' σ H Q → t σ H Q) : PE X e t' := ⟨fun pins s σ H Q I q => h.run pins s σ H Q I (i σ H Q q)⟩
theorem _root_.L2.PT.imp {e : Expr} {t t' : TT} (h : PT X e t) (i : ∀ σ H Q, t' σ H Q → t σ H Q) : PT X e t' := ⟨fun pins s σ H Q I q => h.run pins s σ H Q I (i σ H Q q)⟩
theorem _root_.L2.PW.imp {e : Expr} {t t' : TT} (h : PW X e t) (i : ∀ σ H Q, t' σ H Q → t σ H Q) : PW X e t' := ⟨fun w pins s σ H Q I q => h.run w pins s σ H Q I (i σ H Q q)⟩
theorem _root_.L2.PA.imp {e : List Expr} {t t' : TA} (h : PA X e t) (i : ∀ σ H Q, t' σ H Q → t σ H Q) : PA X e t' := ⟨fun pos pins s σ H Q I q => h.run pos pins s σ H Q I (i σ H Q q)⟩
/-- the lengths of lists and tuples have a bound -/
def LenOk (K : PySem.W.Frag) (v : V) (H : Hp) : Prop := ∀ a, v = .ref a → (∀ xs, SqL K H a xs → xs.length ≤ sizeLine) ∧ ∀ xs, SqT K H a xs → xs.length ≤ sizeLine
theorem _root_.L2.PE.len {e : Expr} {t : TE} (h : PE X e t) : PE X e (fun σ H Q => t σ H fun v H' => LenOk X.K v H' → Q v H') := ⟨fun pins s σ H Q I q =>
  thn (h.run pins s σ H _ I q) fun u s' ⟨v, H', I', r, q'⟩ => ⟨v, H', I', r, q' fun a _ => ⟨fun xs hx => (let ⟨_, _, _, z⟩ := I'.list hx; z), fun xs hx => (let ⟨_, _, _, z⟩ := I'.tuple hx; z)⟩⟩⟩
end

/-! ### plain functions of the slots -/
def eVar (i : Nat) : Ro → Res PyData := fun ρ => match ρ[i]? with
  | some (.val d) => .ok d
  | _ => .bad
def eVarB (i : Nat) : Ro → Res PyData := fun ρ => match ρ[i]? with
  | some (.val d) => .ok d
  | some (.own ds) => .ok (.list ds)
  | _ => .bad
def eC (d : PyData) : Ro → Res PyData := fun _ => .ok d
def e1 {α β : Type} (s : α → Option β) (f : Ro → Res α) : Ro → Res β := fun ρ => (f ρ).bind fun d => ofO (s d)
def e2 {α β γ : Type} (s : α → β → Option γ) (f : Ro → Res α) (g : Ro → Res β) : Ro → Res γ := fun ρ => (f ρ).bind fun d => (g ρ).bind fun e => ofO (s d e)
def eB {α β : Type} (f : Ro → Res α) (g : α → Ro → Res β) : Ro → Res β := fun ρ => (f ρ).bind fun d => g d ρ
def eNil : Ro → Res (List PyData) := fun _ => .ok []
def eCons (f : Ro → Res PyData) (g : Ro → Res (List PyData)) : Ro → Res (List PyData) := fun ρ => (f ρ).bind fun d => (g ρ).bind fun ds => .ok (d :: ds)
def eIf {α : Type} (c : Ro → Res Bool) (f g : Ro → Res α) : Ro → Res α := fun ρ => (c ρ).bind fun b => if b = true then f ρ else g ρ
def eAnd (c d : Ro → Res Bool) : Ro → Res Bool := fun ρ => (c ρ).bind fun b => if b = true then d ρ else .ok false
def eOr (c d : Ro → Res Bool) : Ro → Res Bool := fun ρ => (c ρ).bind fun b => if b = true then .ok true else d ρ
def eNot (c : Ro → Res Bool) : Ro → Res Bool := fun ρ => (c ρ).bind fun b => .ok (!b)
def eCall (m : List PyData → Res PyData) (fs : Ro → Res (List PyData)) : Ro → Res PyData := fun ρ => (fs ρ).bind m
def asB : PyData → Option Bool
  | .bool b => some b
  | _ => none
def bD (b : Bool) : Option PyData := some (.bool b)
def listD (ds : List PyData) : Option PyData := some (.list ds)

section
variable {X : Cx} {K : PySem.W.Frag} {mg : Str → Option Value} {W : WX}
variable {pos : Pos}
/-! ### names, constants -/
theorem pf_var (i : Nat) {x : Str} (hN : X.N[i]? = some x := by rfl) (hv : Vis X.env.scope x := by first | exact Or.inl rfl | exact Or.inr (Or.inl rfl) | exact Or.inr (Or.inr rfl)) (hd : (x == ("__debug__" : Str)) = false := by decide) (hcd : (x == ("__classdict__" : Str)) = false := by decide) : PE X (.Name x pos) (tF K mg W (eVar i)) :=
  (pe_var hN hv hd hcd).imp fun σ H Q ⟨B, F0, F, ρ, S, p⟩ => by
    unfold eVar at p
    cases e : ρ[i]? with
    | none => rw [e] at p; exact p.elim
    | some sl =>
      rw [e] at p
      cases sl with
      | un => exact p.elim
      | own ds => exact p.elim
      | val d =>
        obtain ⟨v, h1, h2⟩ := S.val i d e
        exact ⟨v, h1, p F H v Stp.refl h2⟩
theorem pf_varB (i : Nat) {x : Str} (hN : X.N[i]? = some x := by rfl) (hv : Vis X.env.scope x := by first | exact Or.inl rfl | exact Or.inr (Or.inl rfl) | exact Or.inr (Or.inr rfl)) (hd : (x == ("__debug__" : Str)) = false := by decide) (hcd : (x == ("__classdict__" : Str)) = false := by decide) : PE X (.Name x pos) (tB K mg W (eVarB i)) :=
  (pe_var hN hv hd hcd).imp fun σ H Q ⟨B, F0, F, ρ, S, p⟩ => by
    unfold eVarB at p
    cases e : ρ[i]? with
    | none => rw [e] at p; exact p.elim
    | some sl =>
      rw [e] at p
      cases sl with
      | un => exact p.elim
      | own ds =>
        obtain ⟨a, xs, h1, h2, h3, h4, h5⟩ := S.own i ds e
        exact ⟨_, h1, p F H _ Stp.refl (.own h4 h5)⟩
      | val d =>
        obtain ⟨v, h1, h2⟩ := S.val i d e
        exact ⟨v, h1, p F H v Stp.refl (.rp h2)⟩
theorem pf_c {e : Expr} {v : V} {d : PyData} (h : PE X e (tC v)) (r : ∀ F H, Rp K F H v d) : PE X e (tF K mg W (eC d)) :=
  h.imp fun σ H Q ⟨B, F0, F, ρ, S, p⟩ => p F H v Stp.refl (r F H)
theorem pf_int {i j} : PE X (.Constant (.int i) j pos) (tF K mg W (eC (.int i))) := pf_c pe_int fun _ _ => .int i
theorem pf_bl {b j} : PE X (.Constant (.bool b) j pos) (tF K mg W (eC (.bool b))) := pf_c pe_bl fun _ _ => .bl b
theorem pf_non {j} : PE X (.Constant .none j pos) (tF K mg W (eC .none)) := pf_c pe_non fun _ _ => .non
theorem pf_str {x j} : PE X (.Constant (.str x) j pos) (tF K mg W (eC (.str x))) := pf_c pe_str fun _ _ => .str x
theorem pf_gint {x : Str} {i : Int} (hg : Gl X x) (hm : ∃ t, X.mg x = some (.int i t)) (hd : (x == ("__debug__" : Str)) = false := by decide) : PE X (.Name x pos) (tF K mg W (eC (.int i))) := by
  obtain ⟨t, hm⟩ := hm
  exact pf_c (pe_glob (v := .int i) hg hm ⟨t, rfl⟩ hd) fun _ _ => .int i
/-- from the region to what is read -/
theorem pf_b {e : Expr} {f : Ro → Res PyData} (h : PE X e (tF K mg W f)) : PE X e (tB K mg W f) :=
  h.imp fun σ H Q ⟨B, F0, F, ρ, S, p⟩ => ⟨B, F0, F, ρ, S, p.imp fun d q F' H' v s r => q F' H' v s (.rp r)⟩
/-- a new list let into the region -/
theorem pf_n {e : Expr} {f : Ro → Res (List PyData)} (h : PE X e (tN K mg W f)) : PE X e (tF K mg W (e1 listD f)) :=
  h.imp fun σ H Q ⟨B, F0, F, ρ, S, p⟩ => by
    refine tE.mk S p fun ds F' H' v _ st ⟨a, xs, ev, hn, nf, ha, r⟩ q => ?_
    subst ev
    have s2 : Stp F H (fun b => F' b ∨ b = a) H' := ⟨fun b h => .inl (st.sub b h), st.keep, fun b h => h.elim (fun z => st.new b z) fun z => .inr (by rw [z]; exact ⟨hn, by rw [ha]; simp⟩)⟩
    refine q _ H' _ s2 (.lst (.inr rfl) ha (r.fk ⟨fun _ h => .inl h, fun _ _ _ h => h⟩))
/-! ### operators by their meaning -/
def Sem2 (K : PySem.W.Frag) (r : R2) (s : PyData → PyData → Option PyData) : Prop := ∀ (F : Rg) (H : Hp) (x y : V) (d e z : PyData) (Q : VK), RpB K F H x d → RpB K F H y e → s d e = some z →
  (∀ F' H' v, Stp F H F' H' → Rp K F' H' v z → Q v H') → r x y H Q
def Sem1 (K : PySem.W.Frag) (r : V → Hp → VK → Prop) (s : PyData → Option PyData) : Prop := ∀ (F : Rg) (H : Hp) (x : V) (d z : PyData) (Q : VK), RpB K F H x d → s d = some z →
  (∀ F' H' v, Stp F H F' H' → Rp K F' H' v z → Q v H') → r x H Q
theorem tOp_of {r : R2} {s : PyData → PyData → Option PyData} {f g : Ro → Res PyData} (hs : Sem2 K r s) {σ : L2.St} {H : Hp} {Q : VK} (h : tF K mg W (e2 s f g) σ H Q) : tOp r (tB K mg W f) (tB K mg W g) σ H Q := by
  obtain ⟨B, F0, F, ρ, S, p⟩ := h
  refine tE.mk S p fun d F1 H1 x _ st1 rx p => ?_
  refine tE.mk (S.stp st1) (p.mono st1.keep) fun e F2 H2 y _ st2 ry p => ?_
  obtain ⟨z, ez, q⟩ := p.ofO
  exact hs F2 H2 x y d e z Q (rx.stp st2) ry ez fun F' H' v st r => q F' H' v (st1.trans (st2.trans st)) r
theorem pf_op {op : Operator} {r : R2} {s : PyData → PyData → Option PyData} {a b : Expr} {f g : Ro → Res PyData} (ho : OpR X (binaryOp op) r) (hs : Sem2 K r s) (ha : PE X a (tB K mg W f)) (hb : PE X b (tB K mg W g)) :
    PE X (.BinOp a op b pos) (tF K mg W (e2 s f g)) := (pe_op ho ha hb).imp fun _ _ _ h => tOp_of hs h
theorem pf_cmp {op : CmpOp} {r : R2} {s : PyData → PyData → Option PyData} {a b : Expr} {f g : Ro → Res PyData} (ho : OpR X (compareOp op) r) (hs : Sem2 K r s) (ha : PE X a (tB K mg W f)) (hb : PE X b (tB K mg W g)) (hm : behindInMarks op b = false) :
    PE X (.Compare a [op] [b] pos) (tF K mg W (e2 s f g)) := (pe_cmpR ho ha hb hm).imp fun _ _ _ h => tOp_of hs h
theorem pf_un {op : UnaryOp} {r : V → Hp → VK → Prop} {s : PyData → Option PyData} {a : Expr} {f : Ro → Res PyData} (ho : UnR X (unaryOp op) r) (hs : Sem1 K r s) (ha : PE X a (tB K mg W f)) : PE X (.UnaryOp op a pos) (tF K mg W (e1 s f)) :=
  (pe_un ho ha).imp fun σ H Q ⟨B, F0, F, ρ, S, p⟩ => by
    refine tE.mk S p fun d F1 H1 x _ st1 rx p => ?_
    obtain ⟨z, ez, q⟩ := p.ofO
    exact hs F1 H1 x d z Q rx ez fun F' H' v st r => q F' H' v (st1.trans st) r
/-- x[i] -/
theorem pf_ix {r : R2} {s : PyData → PyData → Option PyData} {a b : Expr} {f g : Ro → Res PyData} (hr : IxR X r) (hs : Sem2 K r s) (ha : PE X a (tB K mg W f)) (hb : PE X b (tB K mg W g)) (hp : PlainIx b := by exact fun _ _ => rfl) :
    PE X (.Subscript a b pos) (tF K mg W (e2 s f g)) := (pe_ix hr ha hb hp).imp fun _ _ _ h => tOp_of hs h
/-! ### tests -/
theorem pf_tv {e : Expr} {f : Ro → Res PyData} (h : PE X e (tB K mg W f)) (he : ∀ whole, isTrue e X.env whole = (do let v ← whole; standAt e.pos; holding [v] (truthy v)) := by intro _; rfl) : PT X e (tTs K mg W (e1 asB f)) :=
  (pt_val h he).imp fun σ H Q ⟨B, F0, F, ρ, S, p⟩ => by
    refine tE.mk S p fun d F1 H1 x _ st1 rx p => ?_
    obtain ⟨b, eb, q⟩ := p.ofO
    cases d with
    | bool c => cases eb; exact ⟨_, rx.bool', q F1 H1 st1⟩
    | _ => cases eb
theorem pf_tcmp {op : CmpOp} {r : R2} {s : PyData → PyData → Option PyData} {a b : Expr} {f g : Ro → Res PyData} (ho : OpR X (compareOp op) r) (hs : Sem2 K r s) (ha : PE X a (tB K mg W f)) (hb : PE X b (tB K mg W g)) (hm : behindInMarks op b = false) :
    PT X (.Compare a [op] [b] pos) (tTs K mg W (e1 asB (e2 s f g))) :=
  (pt_cmpR ho ha hb hm).imp fun σ H Q ⟨B, F0, F, ρ, S, p⟩ => by
    refine tOp_of hs ⟨B, F0, F, ρ, S, ?_⟩
    unfold e1 at p
    cases e : e2 s f g ρ with
    | ok d =>
      rw [e] at p
      obtain ⟨b, eb, q⟩ := p.ofO
      cases d with
      | bool c => cases eb; exact fun F' H' v st r => ⟨_, (RpB.rp r).bool', q F' H' st⟩
      | _ => cases eb
    | exc c k => rw [e] at p; exact p
    | bad => rw [e] at p; exact p
theorem pf_not {a : Expr} {c : Ro → Res Bool} (h : PT X a (tTs K mg W c)) : PT X (.UnaryOp .Not a pos) (tTs K mg W (eNot c)) :=
  (pt_not h).imp fun σ H Q ⟨B, F0, F, ρ, S, p⟩ => tTs.mk S p fun b F1 H1 _ st q => q F1 H1 st
theorem pf_and1 {a : Expr} {c : Ro → Res Bool} (h : PT X a (tTs K mg W c)) : PW X (.BoolOp .And [a] pos) (tTs K mg W c) := pw_and1 h
theorem pf_or1 {a : Expr} {c : Ro → Res Bool} (h : PT X a (tTs K mg W c)) : PW X (.BoolOp .Or [a] pos) (tTs K mg W c) := pw_or1 h
theorem pf_and {a b : Expr} {rest : List Expr} {c d : Ro → Res Bool} (h : PT X a (tTs K mg W c)) (h2 : PW X (.BoolOp .And (b :: rest) pos) (tTs K mg W d)) : PW X (.BoolOp .And (a :: b :: rest) pos) (tTs K mg W (eAnd c d)) :=
  (pw_and h h2).imp fun σ H Q ⟨B, F0, F, ρ, S, p⟩ => tTs.mk S p fun x F1 H1 _ st q => by
    cases x with
    | true =>
      rw [if_pos rfl]
      exact ⟨B, F0, F1, ρ, S.stp st, (q.mono st.keep).imp fun z h F' H' st2 => h F' H' (st.trans st2)⟩
    | false => rw [if_neg (by decide)]; exact q F1 H1 st
theorem pf_or {a b : Expr} {rest : List Expr} {c d : Ro → Res Bool} (h : PT X a (tTs K mg W c)) (h2 : PW X (.BoolOp .Or (b :: rest) pos) (tTs K mg W d)) : PW X (.BoolOp .Or (a :: b :: rest) pos) (tTs K mg W (eOr c d)) :=
  (pw_or h h2).imp fun σ H Q ⟨B, F0, F, ρ, S, p⟩ => tTs.mk S p fun x F1 H1 _ st q => by
    cases x with
    | false =>
      rw [if_neg (by decide)]
      exact ⟨B, F0, F1, ρ, S.stp st, (q.mono st.keep).imp fun z h F' H' st2 => h F' H' (st.trans st2)⟩
    | true => rw [if_pos rfl]; exact q F1 H1 st
/-! ### and, or, not as values of bools -/
def eBool (c : Ro → Res Bool) : Ro → Res PyData := fun ρ => (c ρ).bind fun b => .ok (.bool b)
abbrev eTb (f : Ro → Res PyData) : Ro → Res Bool := e1 asB f
theorem pf_v1 {op} {a : Expr} {f : Ro → Res PyData} (h : PE X a (tB K mg W f)) : PE X (.BoolOp op [a] pos) (tF K mg W (eBool (eTb f))) :=
  (pe_one h).imp fun σ H Q ⟨B, F0, F, ρ, S, p⟩ => by
    refine ⟨B, F0, F, ρ, S, ?_⟩
    unfold eBool eTb e1 at p
    cases e : f ρ with
    | ok d =>
      rw [e] at p
      cases d with
      | bool c => exact fun F' H' v st r => p F' H' v st (by cases r.bool'; exact .bl c)
      | _ => exact p.elim
    | exc c k => rw [e] at p; exact p
    | bad => rw [e] at p; exact p
theorem pf_vand {a b : Expr} {rest : List Expr} {f : Ro → Res PyData} {d : Ro → Res Bool} (h : PE X a (tB K mg W f)) (h2 : PE X (.BoolOp .And (b :: rest) pos) (tF K mg W (eBool d))) : PE X (.BoolOp .And (a :: b :: rest) pos) (tF K mg W (eBool (eAnd (eTb f) d))) :=
  (pe_and h h2).imp fun σ H Q ⟨B, F0, F, ρ, S, p⟩ => by
    refine ⟨B, F0, F, ρ, S, ?_⟩
    unfold eBool eAnd eTb e1 at p
    cases e : f ρ with
    | ok z =>
      rw [e] at p
      cases z with
      | bool c =>
        intro F' H' v st r
        refine ⟨c, r.bool', ?_⟩
        cases c with
        | true =>
          rw [if_pos rfl]
          refine ⟨B, F0, F', ρ, S.stp st, ?_⟩
          have p2 : PostE mg W σ H _ ((d ρ).bind fun b => .ok (PyData.bool b)) := p
          exact (p2.mono st.keep).imp fun z h F2 H2 v2 st2 r2 => h F2 H2 v2 (st.trans st2) r2
        | false =>
          rw [if_neg (by decide)]
          have p2 : PostE mg W σ H _ (Res.ok (PyData.bool false)) := p
          exact p2 F' H' (.bl false) st (.bl false)
      | _ => exact p.elim
    | exc c k => rw [e] at p; exact p
    | bad => rw [e] at p; exact p
theorem pf_vor {a b : Expr} {rest : List Expr} {f : Ro → Res PyData} {d : Ro → Res Bool} (h : PE X a (tB K mg W f)) (h2 : PE X (.BoolOp .Or (b :: rest) pos) (tF K mg W (eBool d))) : PE X (.BoolOp .Or (a :: b :: rest) pos) (tF K mg W (eBool (eOr (eTb f) d))) :=
  (pe_or h h2).imp fun σ H Q ⟨B, F0, F, ρ, S, p⟩ => by
    refine ⟨B, F0, F, ρ, S, ?_⟩
    unfold eBool eOr eTb e1 at p
    cases e : f ρ with
    | ok z =>
      rw [e] at p
      cases z with
      | bool c =>
        intro F' H' v st r
        refine ⟨c, r.bool', ?_⟩
        cases c with
        | false =>
          rw [if_neg (by decide)]
          refine ⟨B, F0, F', ρ, S.stp st, ?_⟩
          have p2 : PostE mg W σ H _ ((d ρ).bind fun b => .ok (PyData.bool b)) := p
          exact (p2.mono st.keep).imp fun z h F2 H2 v2 st2 r2 => h F2 H2 v2 (st.trans st2) r2
        | true =>
          rw [if_pos rfl]
          have p2 : PostE mg W σ H _ (Res.ok (PyData.bool true)) := p
          exact p2 F' H' (.bl true) st (.bl true)
      | _ => exact p.elim
    | exc c k => rw [e] at p; exact p
    | bad => rw [e] at p; exact p
theorem pf_vnot {a : Expr} {f : Ro → Res PyData} (h : PE X a (tB K mg W f)) : PE X (.UnaryOp .Not a pos) (tF K mg W (eBool (eNot (eTb f)))) :=
  (pe_not h).imp fun σ H Q ⟨B, F0, F, ρ, S, p⟩ => by
    refine ⟨B, F0, F, ρ, S, ?_⟩
    unfold eBool eNot eTb e1 at p
    cases e : f ρ with
    | ok z =>
      rw [e] at p
      cases z with
      | bool c => exact fun F' H' v st r => ⟨c, r.bool', p F' H' _ st (.bl _)⟩
      | _ => exact p.elim
    | exc c k => rw [e] at p; exact p
    | bad => rw [e] at p; exact p
/-- a if c else b -/
theorem pf_ifE {Rl : Rg → Hp → Rg → Hp → V → PyData → Prop} {c a b : Expr} {t : Ro → Res Bool} {f g : Ro → Res PyData} (hR : Rl = RF K ∨ Rl = RB K) (hc : PT X c (tTs K mg W t)) (ha : PE X a (tE K mg W Rl f)) (hb : PE X b (tE K mg W Rl g)) : PE X (.IfExp c a b pos) (tE K mg W Rl (eIf t f g)) :=
  (pe_ifExp hc ha hb).imp fun σ H Q ⟨B, F0, F, ρ, S, p⟩ => tTs.mk S p fun x F1 H1 _ st q => by
    have fin : ∀ {f : Ro → Res PyData}, PostE mg W σ H (fun a => ∀ F' H' v, Stp F H F' H' → Rl F H F' H' v a → Q v H') (f ρ) → tE K mg W Rl f σ H1 Q := fun {f} q =>
      ⟨B, F0, F1, ρ, S.stp st, (q.mono st.keep).imp fun d h F' H' v st2 r => h F' H' v (st.trans st2) (by rcases hR with rfl | rfl <;> exact r)⟩
    cases x with
    | true => rw [if_pos rfl] at q ⊢; exact fin q
    | false => rw [if_neg (by decide)] at q ⊢; exact fin q
/-! ### lists of expressions -/
theorem pf_nil : PA X [] (tAs K mg W eNil) := pa_nil.imp fun σ H Q ⟨B, F0, F, ρ, S, p⟩ => p F H [] Stp.refl .nil
theorem pf_cons {e : Expr} {es : List Expr} {f : Ro → Res PyData} {g : Ro → Res (List PyData)} (h : PE X e (tF K mg W f)) (h2 : PA X es (tAs K mg W g)) (hs : starEach (e :: es) X.env = (false, eval e X.env) :: starEach es X.env := by rfl) :
    PA X (e :: es) (tAs K mg W (eCons f g)) := (pa_cons h h2 hs).imp fun σ H Q ⟨B, F0, F, ρ, S, p⟩ => by
  refine tE.mk S p fun d F1 H1 x _ st1 rx p => ?_
  refine tAs.mk (S.stp st1) (p.mono st1.keep) fun ds F2 H2 xs _ st2 rxs q => ?_
  exact q F2 H2 (x :: xs) (st1.trans st2) (.cons (rx.stp st2) rxs)
theorem pf_nilB : PA X [] (tABs K mg W eNil) := pa_nil.imp fun σ H Q ⟨B, F0, F, ρ, S, p⟩ => p F H [] Stp.refl .nil
theorem RpBs.stp {F F' : Rg} {H H' : Hp} {vs : List V} {ds : List PyData} (s : Stp F H F' H') (h : RpBs K F H vs ds) : RpBs K F' H' vs ds := by
  induction h with
  | nil => exact .nil
  | cons a _ ih => exact .cons (a.stp s) ih
theorem pf_consB {e : Expr} {es : List Expr} {f : Ro → Res PyData} {g : Ro → Res (List PyData)} (h : PE X e (tB K mg W f)) (h2 : PA X es (tABs K mg W g)) (hs : starEach (e :: es) X.env = (false, eval e X.env) :: starEach es X.env := by rfl) :
    PA X (e :: es) (tABs K mg W (eCons f g)) := (pa_cons h h2 hs).imp fun σ H Q ⟨B, F0, F, ρ, S, p⟩ => by
  refine tE.mk S p fun d F1 H1 x _ st1 rx p => ?_
  refine tABs.mk (S.stp st1) (p.mono st1.keep) fun ds F2 H2 xs _ st2 rxs q => ?_
  exact q F2 H2 (x :: xs) (st1.trans st2) (.cons (rx.stp st2) rxs)
/-- (a, b, ..) -/
def tupD (ds : List PyData) : Option PyData := some (.tuple ds)
theorem pf_tup {es : List Expr} {x1} {g : Ro → Res (List PyData)} (h : PA X es (tAs K mg W g)) (hl : es.length ≤ 64 := by decide) (hg : ∀ ρ ds, g ρ = .ok ds → ds.length = es.length) : PE X (.Tuple es x1 pos) (tF K mg W (e1 tupD g)) :=
  (pe_tup h).imp fun σ H Q ⟨B, F0, F, ρ, S, p⟩ => by
    refine tAs.mk S p fun ds F1 H1 xs e st rxs q => ⟨?_, fun a ha => ?_⟩
    · rw [rxs.length, hg ρ ds e, sizeLine_eq]; omega
    · exact q _ _ _ (st.trans (Stp.add ha)) (.tup (.inr rfl) upd_same (rxs.stp (Stp.add ha)))
theorem pf_lst {es : List Expr} {g : Ro → Res (List PyData)} (h : PA X es (tAs K mg W g)) (hl : es.length ≤ 64 := by decide) (hg : ∀ ρ ds, g ρ = .ok ds → ds.length = es.length) : PE X (.List es pos) (tN K mg W g) :=
  (pe_lst h).imp fun σ H Q ⟨B, F0, F, ρ, S, p⟩ => by
    have p' : PostE mg W σ H (fun a => ∀ F' H' v, Stp F H F' H' → RN K F H F' H' v a → Q v H') ((g ρ).bind fun a => .ok a) := by
      cases e : g ρ with
      | _ => rw [e] at p; exact p
    refine tAs.mk S p' fun ds F1 H1 xs e st rxs q => ⟨?_, fun a ha => ?_⟩
    · rw [rxs.length, hg ρ ds e, sizeLine_eq]; omega
    · have hn : H a = none := st.keep.free ha
      refine q F1 _ _ (st.trans (Stp.lay ha)) ⟨a, xs, rfl, hn, fun z => (S.stp st).trk a z ha, upd_same, rxs.stp (Stp.lay ha)⟩
theorem len_nil : ∀ (ρ : Ro) ds, eNil ρ = .ok ds → ds.length = 0 := fun ρ ds h => by cases h; rfl
theorem len_cons {f : Ro → Res PyData} {g : Ro → Res (List PyData)} {n : Nat} (h : ∀ ρ ds, g ρ = .ok ds → ds.length = n) : ∀ (ρ : Ro) ds, eCons f g ρ = .ok ds → ds.length = n + 1 := fun ρ ds e => by
  unfold eCons at e
  cases e1 : f ρ with
  | ok d =>
    rw [e1] at e
    cases e2 : g ρ with
    | ok r => rw [e2] at e; cases e; rw [List.length_cons, h ρ r e2]
    | exc c k => rw [e2] at e; cases e
    | bad => rw [e2] at e; cases e
  | exc c k => rw [e1] at e; cases e
  | bad => rw [e1] at e; cases e
end
end Pf
/-! Pf3: operators, comparisons, subscripts, built-ins. -/
namespace Pf
open PySem PySem.Spec PyProof.Rows L2

/-! ### arithmetic -/
def addD : PyData → PyData → Option PyData
  | .int a, .int b => some (.int (a + b))
  | .str a, .str b => if a.length + b.length ≤ 16777216 then some (.str (a ++ b)) else none
  | .list xs, .list ys => if xs.length + ys.length ≤ 16777216 then some (.list (xs ++ ys)) else none
  | .tuple xs, .tuple ys => if xs ≠ [] ∧ ys ≠ [] ∧ xs.length + ys.length ≤ 16777216 then some (.tuple (xs ++ ys)) else none
  | _, _ => none
def subD : PyData → PyData → Option PyData
  | .int a, .int b => some (.int (a - b))
  | _, _ => none
def okMul (a b : Int) : Bool := decide (a.natAbs.log2 + b.natAbs.log2 < 1000000)
def mulD : PyData → PyData → Option PyData
  | .int a, .int b => if okMul a b = true then some (.int (a * b)) else none
  | .list xs, .int k => if 0 ≤ k ∧ k < 16777216 ∧ xs.length * k.toNat ≤ 16777216 then some (.list (List.replicate k.toNat xs).flatten) else none
  | _, _ => none
def divD : PyData → PyData → Option PyData
  | .int a, .int b => if 0 < b ∧ b.natAbs.log2 < 9000 then some (.int (a / b)) else none
  | _, _ => none
def modD : PyData → PyData → Option PyData
  | .int a, .int b => if 0 < b then some (.int (a % b)) else none
  | _, _ => none
def powD : PyData → PyData → Option PyData
  | .int a, .int b => if 0 ≤ b ∧ b ≤ 1000000 ∧ a.natAbs < 2 ^ 64 then some (.int (a ^ b.toNat)) else none
  | _, _ => none
def negD : PyData → Option PyData
  | .int a => some (.int (-a))
  | _ => none
section
variable {K : PySem.W.Frag} {F : Rg} {H : Hp}
theorem Rp.newL {a : Addr} {xs : List V} {ds : List PyData} (h : H a = none) (r : Rps K F H xs ds) : Rp K (fun b => F b ∨ b = a) (upd H a (.lst xs)) (.ref a) (.list ds) := .lst (.inr rfl) upd_same (r.stp (Stp.add h))
theorem Rp.newT {a : Addr} {xs : List V} {ds : List PyData} (h : H a = none) (r : Rps K F H xs ds) : Rp K (fun b => F b ∨ b = a) (upd H a (.tup xs)) (.ref a) (.tuple ds) := .tup (.inr rfl) upd_same (r.stp (Stp.add h))
theorem Rps.ne {xs : List V} {ds : List PyData} (r : Rps K F H xs ds) (h : ds ≠ []) : xs ≠ [] := by
  intro z
  subst z
  cases r
  exact h rfl
theorem Rps.flat {xs : List V} {ds : List PyData} (r : Rps K F H xs ds) : ∀ k : Nat, Rps K F H (List.replicate k xs).flatten (List.replicate k ds).flatten
  | 0 => .nil
  | k + 1 => by
    rw [List.replicate_succ, List.replicate_succ, List.flatten_cons, List.flatten_cons]
    exact Rps.append r (Rps.flat r k)
end
section
variable {X : Cx} {K : PySem.W.Frag} {mg : Str → Option Value} {W : WX} {pos : Pos}
def rAddA (K : PySem.W.Frag) : R2 := fun x y H Q => (rI0 fun i j => .int (i + j)) x y H Q ∨ (∃ i j, x = .str i ∧ y = .str j ∧ i.length + j.length ≤ sizeLine ∧ Q (.str (i ++ j)) H) ∨ rCat x y H Q ∨ rCatT K x y H Q
theorem opr_add : OpR X (binaryOp .Add) (rAddA X.K) := op_add.or (op_add_str.or (op_cat.or op_catT))
theorem sem_add : Sem2 K (rAddA K) addD := by
  intro F H x y d e z Q rx ry hs h
  unfold addD at hs
  split at hs
  · cases hs
    exact .inl ⟨_, _, rx.int', ry.int', h F H _ Stp.refl (.int _)⟩
  · split at hs
    · rename_i hl
      cases hs
      exact .inr (.inl ⟨_, _, rx.str', ry.str', by rw [sizeLine_eq]; exact hl, h F H _ Stp.refl (.str _)⟩)
    · cases hs
  · split at hs
    · rename_i hl
      cases hs
      obtain ⟨a, xs, rfl, ha, r1⟩ := rx.list
      obtain ⟨b, ys, rfl, hb, r2⟩ := ry.list
      refine .inr (.inr (.inl ⟨a, b, xs, ys, rfl, rfl, ha, hb, by rw [r1.length, r2.length, sizeLine_eq]; exact hl, fun p hp => h _ _ _ (Stp.add hp) (Rp.newL hp (r1.append r2))⟩))
    · cases hs
  · split at hs
    · rename_i hl
      cases hs
      obtain ⟨a, xs, rfl, ha, r1⟩ := rx.tuple
      obtain ⟨b, ys, rfl, hb, r2⟩ := ry.tuple
      refine .inr (.inr (.inr ⟨a, b, xs, ys, rfl, rfl, ha, hb, r1.ne hl.1, by rw [r1.length, r2.length, sizeLine_eq]; exact hl.2.2, fun z => absurd z (r2.ne hl.2.1), fun _ p hp => h _ _ _ (Stp.add hp) (Rp.newT hp (r1.append r2))⟩))
    · cases hs
  · cases hs
theorem sem_sub : Sem2 K (rI0 fun i j => .int (i - j)) subD := by
  intro F H x y d e z Q rx ry hs h
  unfold subD at hs
  split at hs
  · cases hs
    exact ⟨_, _, rx.int', ry.int', h F H _ Stp.refl (.int _)⟩
  · cases hs
def rMulA : R2 := fun x y H Q => (rI CMulW fun i j => .int (i * j)) x y H Q ∨ rRep x y H Q
theorem opr_mul : OpR X (binaryOp .Mult) rMulA := op_mulW.or op_rep
theorem sem_mul : Sem2 K rMulA mulD := by
  intro F H x y d e z Q rx ry hs h
  unfold mulD at hs
  split at hs
  · split at hs
    · rename_i hl
      cases hs
      exact .inl ⟨_, _, rx.int', ry.int', (by unfold CMulW; unfold okMul at hl; exact of_decide_eq_true hl), h F H _ Stp.refl (.int _)⟩
    · cases hs
  · split at hs
    · rename_i hl
      cases hs
      obtain ⟨a, xs, rfl, ha, r1⟩ := rx.list
      refine .inr ⟨a, _, xs, rfl, ry.int', ha, by omega, by omega, by rw [r1.length, sizeLine_eq]; exact hl.2.2, fun p hp => h _ _ _ (Stp.add hp) (Rp.newL hp (r1.flat _))⟩
    · cases hs
  · cases hs
theorem sem_div : Sem2 K (rI CDivW fun i j => .int (i / j)) divD := by
  intro F H x y d e z Q rx ry hs h
  unfold divD at hs
  split at hs
  · split at hs
    · rename_i hl
      cases hs
      exact ⟨_, _, rx.int', ry.int', hl, h F H _ Stp.refl (.int _)⟩
    · cases hs
  · cases hs
theorem sem_mod : Sem2 K (rI (fun _ j => 0 < j) fun i j => .int (i % j)) modD := by
  intro F H x y d e z Q rx ry hs h
  unfold modD at hs
  split at hs
  · split at hs
    · rename_i hl
      cases hs
      exact ⟨_, _, rx.int', ry.int', hl, h F H _ Stp.refl (.int _)⟩
    · cases hs
  · cases hs
theorem sem_pow : Sem2 K (rI CPow fun i j => .int (i ^ j.toNat)) powD := by
  intro F H x y d e z Q rx ry hs h
  unfold powD at hs
  split at hs
  · split at hs
    · rename_i hl
      cases hs
      exact ⟨_, _, rx.int', ry.int', hl, h F H _ Stp.refl (.int _)⟩
    · cases hs
  · cases hs
theorem sem_neg : Sem1 K (rU fun i => .int (-i)) negD := by
  intro F H x d z Q rx hs h
  unfold negD at hs
  split at hs
  · cases hs
    exact ⟨_, rx.int', h F H _ Stp.refl (.int _)⟩
  · cases hs
theorem pf_add {a b : Expr} {f g : Ro → Res PyData} (hK : X.K = K) (ha : PE X a (tB K mg W f)) (hb : PE X b (tB K mg W g)) : PE X (.BinOp a .Add b pos) (tF K mg W (e2 addD f g)) := pf_op opr_add (hK ▸ sem_add) ha hb
theorem pf_sub {a b : Expr} {f g : Ro → Res PyData} (ha : PE X a (tB K mg W f)) (hb : PE X b (tB K mg W g)) : PE X (.BinOp a .Sub b pos) (tF K mg W (e2 subD f g)) := pf_op op_sub sem_sub ha hb
theorem pf_mul {a b : Expr} {f g : Ro → Res PyData} (ha : PE X a (tB K mg W f)) (hb : PE X b (tB K mg W g)) : PE X (.BinOp a .Mult b pos) (tF K mg W (e2 mulD f g)) := pf_op opr_mul sem_mul ha hb
theorem pf_div {a b : Expr} {f g : Ro → Res PyData} (ha : PE X a (tB K mg W f)) (hb : PE X b (tB K mg W g)) : PE X (.BinOp a .FloorDiv b pos) (tF K mg W (e2 divD f g)) := pf_op op_fdivW sem_div ha hb
theorem pf_mod {a b : Expr} {f g : Ro → Res PyData} (ha : PE X a (tB K mg W f)) (hb : PE X b (tB K mg W g)) : PE X (.BinOp a .Mod b pos) (tF K mg W (e2 modD f g)) := pf_op op_mod sem_mod ha hb
theorem pf_pow {a b : Expr} {f g : Ro → Res PyData} (ha : PE X a (tB K mg W f)) (hb : PE X b (tB K mg W g)) : PE X (.BinOp a .Pow b pos) (tF K mg W (e2 powD f g)) := pf_op op_pow sem_pow ha hb
theorem pf_neg {a : Expr} {f : Ro → Res PyData} (ha : PE X a (tB K mg W f)) : PE X (.UnaryOp .USub a pos) (tF K mg W (e1 negD f)) := pf_un un_neg sem_neg ha
/-- a + b of lists, the result one's own -/
def listL : PyData → Option (List PyData)
  | .list ds => some ds
  | _ => none
def catL : PyData → PyData → Option (List PyData)
  | .list xs, .list ys => if xs.length + ys.length ≤ 16777216 then some (xs ++ ys) else none
  | _, _ => none
theorem pf_catN {a b : Expr} {f g : Ro → Res PyData} (ha : PE X a (tB K mg W f)) (hb : PE X b (tB K mg W g)) : PE X (.BinOp a .Add b pos) (tN K mg W (e2 catL f g)) :=
  (pe_op op_cat ha hb).imp fun σ H Q ⟨B, F0, F, ρ, S, p⟩ => by
    refine tE.mk S p fun d F1 H1 x _ st1 rx p => ?_
    refine tE.mk (S.stp st1) (p.mono st1.keep) fun e F2 H2 y _ st2 ry p => ?_
    obtain ⟨z, ez, q⟩ := p.ofO
    unfold catL at ez
    split at ez
    · split at ez
      · rename_i hl
        cases ez
        obtain ⟨a, xs, rfl, ha, r1⟩ := (rx.stp st2).list
        obtain ⟨b, ys, rfl, hb, r2⟩ := ry.list
        refine ⟨a, b, xs, ys, rfl, rfl, ha, hb, by rw [r1.length, r2.length, sizeLine_eq]; exact hl, fun p hp => ?_⟩
        have s12 := st1.trans st2
        exact q _ _ _ (s12.trans (Stp.lay hp)) ⟨p, _, rfl, s12.keep.free hp, fun z => (S.stp s12).trk p z hp, upd_same, (r1.append r2).stp (Stp.lay hp)⟩
      · cases ez
    · cases ez
def repL : PyData → PyData → Option (List PyData)
  | .list xs, .int k => if 0 ≤ k ∧ k < 16777216 ∧ xs.length * k.toNat ≤ 16777216 then some (List.replicate k.toNat xs).flatten else none
  | _, _ => none
theorem pf_repN {a b : Expr} {f g : Ro → Res PyData} (ha : PE X a (tB K mg W f)) (hb : PE X b (tB K mg W g)) : PE X (.BinOp a .Mult b pos) (tN K mg W (e2 repL f g)) :=
  (pe_op op_rep ha hb).imp fun σ H Q ⟨B, F0, F, ρ, S, p⟩ => by
    refine tE.mk S p fun d F1 H1 x _ st1 rx p => ?_
    refine tE.mk (S.stp st1) (p.mono st1.keep) fun e F2 H2 y _ st2 ry p => ?_
    obtain ⟨z, ez, q⟩ := p.ofO
    unfold repL at ez
    split at ez
    · split at ez
      · rename_i hl
        cases ez
        obtain ⟨a, xs, rfl, ha, r1⟩ := (rx.stp st2).list
        refine ⟨a, _, xs, rfl, ry.int', ha, by omega, by omega, by rw [r1.length, sizeLine_eq]; exact hl.2.2, fun p hp => ?_⟩
        have s12 := st1.trans st2
        exact q _ _ _ (s12.trans (Stp.lay hp)) ⟨p, _, rfl, s12.keep.free hp, fun z => (S.stp s12).trk p z hp, upd_same, (r1.flat _).stp (Stp.lay hp)⟩
      · cases ez
    · cases ez

/-! ### comparisons -/
def ltD : PyData → PyData → Option PyData
  | .int a, .int b => some (.bool (decide (a < b)))
  | _, _ => none
def leD : PyData → PyData → Option PyData
  | .int a, .int b => some (.bool (decide (a ≤ b)))
  | _, _ => none
def gtD : PyData → PyData → Option PyData
  | .int a, .int b => some (.bool (decide (b < a)))
  | _, _ => none
def geD : PyData → PyData → Option PyData
  | .int a, .int b => some (.bool (decide (b ≤ a)))
  | _, _ => none
def eqD (d e : PyData) : Option PyData := if SeqAt.shaped d = true ∧ SeqAt.shaped e = true then some (.bool (PyData.eqv d e)) else none
def neD (d e : PyData) : Option PyData := if SeqAt.shaped d = true ∧ SeqAt.shaped e = true then some (.bool (!PyData.eqv d e)) else none
def isNo : PyData → Bool
  | .none => true
  | _ => false
def isD : PyData → PyData → Option PyData
  | d, .none => some (.bool (isNo d))
  | .bool a, .bool b => some (.bool (decide (a = b)))
  | _, _ => none
def isnD : PyData → PyData → Option PyData
  | d, .none => some (.bool (!isNo d))
  | .bool a, .bool b => some (.bool (!decide (a = b)))
  | _, _ => none
theorem sem_lt : Sem2 K (rI0 fun i j => .bl (decide (i < j))) ltD := by
  intro F H x y d e z Q rx ry hs h
  unfold ltD at hs
  split at hs
  · cases hs; exact ⟨_, _, rx.int', ry.int', h F H _ Stp.refl (.bl _)⟩
  · cases hs
theorem sem_le : Sem2 K (rI0 fun i j => .bl (decide (i ≤ j))) leD := by
  intro F H x y d e z Q rx ry hs h
  unfold leD at hs
  split at hs
  · cases hs; exact ⟨_, _, rx.int', ry.int', h F H _ Stp.refl (.bl _)⟩
  · cases hs
theorem sem_gt : Sem2 K (rI0 fun i j => .bl (decide (j < i))) gtD := by
  intro F H x y d e z Q rx ry hs h
  unfold gtD at hs
  split at hs
  · cases hs; exact ⟨_, _, rx.int', ry.int', h F H _ Stp.refl (.bl _)⟩
  · cases hs
theorem sem_ge : Sem2 K (rI0 fun i j => .bl (decide (j ≤ i))) geD := by
  intro F H x y d e z Q rx ry hs h
  unfold geD at hs
  split at hs
  · cases hs; exact ⟨_, _, rx.int', ry.int', h F H _ Stp.refl (.bl _)⟩
  · cases hs
theorem sem_eq : Sem2 K (rEqD K) eqD := by
  intro F H x y d e z Q rx ry hs h
  unfold eqD at hs
  split at hs
  · rename_i hl
    cases hs
    exact ⟨d, e, rx.dp (SeqAt.canLay_of_shaped hl.1), ry.dp (SeqAt.canLay_of_shaped hl.2), hl.1, hl.2, h F H _ Stp.refl (.bl _)⟩
  · cases hs
theorem sem_ne : Sem2 K (rNeD K) neD := by
  intro F H x y d e z Q rx ry hs h
  unfold neD at hs
  split at hs
  · rename_i hl
    cases hs
    exact ⟨d, e, rx.dp (SeqAt.canLay_of_shaped hl.1), ry.dp (SeqAt.canLay_of_shaped hl.2), hl.1, hl.2, h F H _ Stp.refl (.bl _)⟩
  · cases hs
def rIsA : R2 := fun x y H Q => (y = .non ∧ Q (.bl (decide (x = .non))) H) ∨ rIsB x y H Q
def rIsnA : R2 := fun x y H Q => (y = .non ∧ Q (.bl (!decide (x = .non))) H) ∨ rNotB x y H Q
theorem opr_is : OpR X (compareOp .Is) rIsA := op_isN.or op_isBl
theorem opr_isn : OpR X (compareOp .IsNot) rIsnA := op_notN.or op_notBl
theorem RpB.isN {F : Rg} {H : Hp} {v : V} {d : PyData} (h : RpB K F H v d) : decide (v = .non) = isNo d := by
  cases h with
  | rp h => cases h <;> rfl
  | own a b => rfl
theorem RpB.isN' {F : Rg} {H : Hp} {v : V} {d : PyData} (h : RpB K F H v d) : (!decide (v = .non)) = !isNo d := by
  cases h with
  | rp h => cases h <;> rfl
  | own a b => rfl
theorem sem_is : Sem2 K rIsA isD := by
  intro F H x y d e z Q rx ry hs h
  unfold isD at hs
  split at hs
  · cases hs
    refine .inl ⟨ry.none', ?_⟩
    rw [rx.isN]
    exact h F H _ Stp.refl (.bl _)
  · cases hs
    exact .inr ⟨_, _, rx.bool', ry.bool', h F H _ Stp.refl (.bl _)⟩
  · cases hs
theorem sem_isn : Sem2 K rIsnA isnD := by
  intro F H x y d e z Q rx ry hs h
  unfold isnD at hs
  split at hs
  · cases hs
    refine .inl ⟨ry.none', ?_⟩
    rw [rx.isN']
    exact h F H _ Stp.refl (.bl _)
  · cases hs
    exact .inr ⟨_, _, rx.bool', ry.bool', h F H _ Stp.refl (.bl _)⟩
  · cases hs
/-- a rule of a comparison, by its operator -/
structure CmpR (X : Cx) (K : PySem.W.Frag) (op : CmpOp) (s : PyData → PyData → Option PyData) : Prop where
  r : ∃ r : R2, OpR X (compareOp op) r ∧ Sem2 K r s
theorem cm_lt : CmpR X K .Lt ltD := ⟨_, op_lt, sem_lt⟩
theorem cm_le : CmpR X K .LtE leD := ⟨_, op_le, sem_le⟩
theorem cm_gt : CmpR X K .Gt gtD := ⟨_, op_gt, sem_gt⟩
theorem cm_ge : CmpR X K .GtE geD := ⟨_, op_ge, sem_ge⟩
theorem cm_eq (hK : X.K = K) (hu : X.A.units + 64 < cLine) : CmpR X K .Eq eqD := ⟨_, op_eqD hu, hK ▸ sem_eq⟩
theorem cm_ne (hK : X.K = K) (hu : X.A.units + 64 < cLine) : CmpR X K .NotEq neD := ⟨_, op_neD hu, hK ▸ sem_ne⟩
theorem cm_is : CmpR X K .Is isD := ⟨_, opr_is, sem_is⟩
theorem cm_isn : CmpR X K .IsNot isnD := ⟨_, opr_isn, sem_isn⟩
theorem pf_cmpV {op : CmpOp} {s : PyData → PyData → Option PyData} {a b : Expr} {f g : Ro → Res PyData} (c : CmpR X K op s) (ha : PE X a (tB K mg W f)) (hb : PE X b (tB K mg W g)) (hm : behindInMarks op b = false := by first | exact nomark _ | rfl) : PE X (.Compare a [op] [b] pos) (tF K mg W (e2 s f g)) := by
  obtain ⟨r, ho, hs⟩ := c.r
  exact pf_cmp ho hs ha hb hm
theorem pf_cmpT {op : CmpOp} {s : PyData → PyData → Option PyData} {a b : Expr} {f g : Ro → Res PyData} (c : CmpR X K op s) (ha : PE X a (tB K mg W f)) (hb : PE X b (tB K mg W g)) (hm : behindInMarks op b = false := by first | exact nomark _ | rfl) : PT X (.Compare a [op] [b] pos) (tTs K mg W (eTb (e2 s f g))) := by
  obtain ⟨r, ho, hs⟩ := c.r
  exact pf_tcmp ho hs ha hb hm
/-- a op b op' c -/
def eChain (s s' : PyData → PyData → Option PyData) (f g h : Ro → Res PyData) : Ro → Res Bool := fun ρ => (f ρ).bind fun d => (g ρ).bind fun e => (ofO ((s d e).bind asB)).bind fun k => if k = true then (h ρ).bind fun u => ofO ((s' e u).bind asB) else .ok false
theorem RpB.asB {F : Rg} {H : Hp} {v : V} {d : PyData} {b : Bool} (h : RpB K F H v d) (e : asB d = some b) : v = .bl b := by
  cases d with
  | bool c => cases e; exact h.bool'
  | _ => cases e
theorem pf_chainT {op op' : CmpOp} {s s' : PyData → PyData → Option PyData} {a b c : Expr} {f g h : Ro → Res PyData} (c1 : CmpR X K op s) (c2 : CmpR X K op' s') (ha : PE X a (tB K mg W f)) (hb : PE X b (tB K mg W g)) (hc : PE X c (tB K mg W h)) (hm : lastMarks [op, op'] [b, c] = false := by with_unfolding_all rfl) :
    PT X (.Compare a [op, op'] [b, c] pos) (tTs K mg W (eChain s s' f g h)) := by
  obtain ⟨r, ho, hs⟩ := c1.r
  obtain ⟨r', ho', hs'⟩ := c2.r
  refine (pt_chain ho ho' ha hb hc hm).imp fun σ H Q ⟨B, F0, F, ρ, S, p⟩ => ?_
  refine tE.mk S p fun d F1 H1 x _ st1 rx p => ?_
  refine tE.mk (S.stp st1) (p.mono st1.keep) fun e F2 H2 y _ st2 ry p => ?_
  have s12 := st1.trans st2
  cases e1 : s d e with
  | none => rw [e1] at p; exact p.elim
  | some z =>
    rw [e1] at p
    refine hs F2 H2 x y d e z _ (rx.stp st2) ry e1 fun F3 H3 v st3 rv => ?_
    have p2 : PostE mg W σ H1 _ ((ofO (asB z)).bind fun k => if k = true then (h ρ).bind fun u => ofO ((s' e u).bind asB) else .ok false) := p
    cases ez : asB z with
    | none => rw [ez] at p2; exact p2.elim
    | some k =>
      rw [ez] at p2
      refine ⟨k, (RpB.rp rv).asB ez, ?_⟩
      cases k with
      | false =>
        rw [if_neg (by decide)]
        have p3 : PostE mg W σ H1 _ (Res.ok false) := p2
        exact ⟨false, rfl, p3 F3 H3 (s12.trans st3)⟩
      | true =>
        rw [if_pos rfl]
        have p3 : PostE mg W σ H1 _ ((h ρ).bind fun u => ofO ((s' e u).bind asB)) := p2
        refine tE.mk (S.stp (s12.trans st3)) (p3.mono (st2.trans st3).keep) fun u F4 H4 w _ st4 rw' p4 => ?_
        obtain ⟨b, eb, q⟩ := p4.ofO
        cases eu : s' e u with
        | none => rw [eu] at eb; cases eb
        | some z2 =>
          rw [eu] at eb
          exact hs' F4 H4 y w e u z2 _ (ry.stp (st3.trans st4)) rw' eu fun F5 H5 v5 st5 rv5 => ⟨b, (RpB.rp rv5).asB eb, q F5 H5 (s12.trans (st3.trans (st4.trans st5)))⟩
theorem pf_chainV {op op' : CmpOp} {s s' : PyData → PyData → Option PyData} {a b c : Expr} {f g h : Ro → Res PyData} (c1 : CmpR X K op s) (c2 : CmpR X K op' s') (ha : PE X a (tB K mg W f)) (hb : PE X b (tB K mg W g)) (hc : PE X c (tB K mg W h)) (hm : lastMarks [op, op'] [b, c] = false := by with_unfolding_all rfl) :
    PE X (.Compare a [op, op'] [b, c] pos) (tF K mg W (eBool (eChain s s' f g h))) := by
  obtain ⟨r, ho, hs⟩ := c1.r
  obtain ⟨r', ho', hs'⟩ := c2.r
  refine (pe_chain ho ho' ha hb hc hm).imp fun σ H Q ⟨B, F0, F, ρ, S, p0⟩ => ?_
  have p : PostE mg W σ H (fun b => ∀ F' H' v, Stp F H F' H' → Rp K F' H' v (.bool b) → Q v H') (eChain s s' f g h ρ) := by
    unfold eBool at p0
    cases e : eChain s s' f g h ρ with
    | ok b => rw [e] at p0; exact p0
    | exc c k => rw [e] at p0; exact p0
    | bad => rw [e] at p0; exact p0
  refine tE.mk S p fun d F1 H1 x _ st1 rx p => ?_
  refine tE.mk (S.stp st1) (p.mono st1.keep) fun e F2 H2 y _ st2 ry p => ?_
  have s12 := st1.trans st2
  cases e1 : s d e with
  | none => rw [e1] at p; exact p.elim
  | some z =>
    rw [e1] at p
    refine hs F2 H2 x y d e z _ (rx.stp st2) ry e1 fun F3 H3 v st3 rv => ?_
    have p2 : PostE mg W σ H1 _ ((ofO (asB z)).bind fun k => if k = true then (h ρ).bind fun u => ofO ((s' e u).bind asB) else .ok false) := p
    cases ez : asB z with
    | none => rw [ez] at p2; exact p2.elim
    | some k =>
      rw [ez] at p2
      refine ⟨k, (RpB.rp rv).asB ez, ?_⟩
      cases k with
      | false =>
        rw [if_neg (by decide)]
        have p3 : PostE mg W σ H1 _ (Res.ok false) := p2
        exact p3 F3 H3 _ (s12.trans st3) (.bl false)
      | true =>
        rw [if_pos rfl]
        have p3 : PostE mg W σ H1 _ ((h ρ).bind fun u => ofO ((s' e u).bind asB)) := p2
        refine tE.mk (S.stp (s12.trans st3)) (p3.mono (st2.trans st3).keep) fun u F4 H4 w _ st4 rw' p4 => ?_
        obtain ⟨b, eb, q⟩ := p4.ofO
        cases eu : s' e u with
        | none => rw [eu] at eb; cases eb
        | some z2 =>
          rw [eu] at eb
          refine hs' F4 H4 y w e u z2 _ (ry.stp (st3.trans st4)) rw' eu fun F5 H5 v5 st5 rv5 => ?_
          cases z2 with
          | bool b2 =>
            cases eb
            exact q F5 H5 v5 (s12.trans (st3.trans (st4.trans st5))) rv5
          | _ => cases eb

/-! ### subscripts -/
def ixD : PyData → PyData → Option PyData
  | .list xs, .int i => atI xs i
  | .tuple xs, .int i => atI xs i
  | .dict ps, .int i => atI (ps.map (·.2)) i
  | _, _ => none
theorem ixN_lt {n : Nat} {i : Int} {j : Nat} (h : ixN n i = some j) : j < n := (ixN_seq h).2.1
theorem Rps.at {F : Rg} {H : Hp} {xs : List V} {ds : List PyData} {i : Int} {d : PyData} (r : Rps K F H xs ds) (h : atI ds i = some d) : ∃ v, atI xs i = some v ∧ Rp K F H v d := by
  unfold atI at h ⊢
  rw [r.length]
  cases e : ixN ds.length i with
  | none => rw [e] at h; cases h
  | some j =>
    rw [e] at h
    obtain ⟨v, h1, h2⟩ := r.get (i := j) h
    exact ⟨v, h1, h2⟩
theorem sem_ix : Sem2 K (rIx K) ixD := by
  intro F H x y d e z Q rx ry hs h
  unfold ixD at hs
  split at hs
  · obtain ⟨a, xs, rfl, ha, r⟩ := rx.list
    obtain ⟨v, h1, h2⟩ := r.at hs
    exact .inl ⟨a, xs, _, v, rfl, ry.int', SqL.of ha, h1, h F H v Stp.refl h2⟩
  · obtain ⟨a, xs, rfl, ha, r⟩ := rx.tuple
    obtain ⟨v, h1, h2⟩ := r.at hs
    exact .inr (.inl ⟨a, xs, _, v, rfl, ry.int', ha, h1, h F H v Stp.refl h2⟩)
  · rename_i ps i
    cases rx with
    | rp rx =>
      have key : ∀ {a : Addr} {ns : List Int}, SqL K H a (ns.map V.int) → atI ((ns.map fun n => (PyData.none, PyData.int n)).map (·.2)) i = some z → rIx K (.ref a) y H Q := fun {a ns} sq hs => by
        have e2 : (ns.map fun n => (PyData.none, PyData.int n)).map (·.2) = ns.map PyData.int := by simp [List.map_map, Function.comp_def]
        rw [e2] at hs
        obtain ⟨v, h1, h2⟩ := (Rps.of_ints (K := K) (F := F) (H := H) (ns := ns)).at hs
        exact .inl ⟨a, _, _, v, rfl, ry.int', sq, h1, h F H v Stp.refl h2⟩
      cases rx with
      | scr f q => exact key (.inl (.inr ⟨_, q⟩)) hs
      | scrK q => exact key (q.sq H) hs
  · cases hs
theorem pf_sub1 {a b : Expr} {f g : Ro → Res PyData} (hK : X.K = K) (ha : PE X a (tB K mg W f)) (hb : PE X b (tB K mg W g)) (hp : PlainIx b := by exact fun _ _ => rfl) : PE X (.Subscript a b pos) (tF K mg W (e2 ixD f g)) := pf_ix ix_seq (hK ▸ sem_ix) ha hb hp
/-- slices -/
def cutD (xs : List PyData) (lo hi : Option Int) : List PyData := (xs.drop (HT.sIx xs.length 0 lo)).take (HT.sIx xs.length xs.length hi - HT.sIx xs.length 0 lo)
def eNone : Ro → Res (Option Int) := fun _ => .ok none
def asI : PyData → Option (Option Int)
  | .int i => some (some i)
  | _ => none
def tPs (K : PySem.W.Frag) (mg : Str → Option Value) (W : WX) (f : Ro → Res (Option Int)) : TO := fun σ H Q =>
  ∃ (B : Hp) (F0 F : Rg) (ρ : Ro), Ste K B F0 F H σ ρ ∧ PostE mg W σ H (fun o => ∀ F' H', Stp F H F' H' → Q o H') (f ρ)
theorem _root_.L2.PO.imp {e : Option Expr} {t t' : TO} (h : PO X e t) (i : ∀ σ H Q, t' σ H Q → t σ H Q) : PO X e t' := ⟨fun pins s σ H Q I q => h.run pins s σ H Q I (i σ H Q q)⟩
theorem pf_pnone : PO X none (tPs K mg W eNone) := po_none.imp fun σ H Q ⟨B, F0, F, ρ, S, p⟩ => p F H Stp.refl
theorem pf_psome {e : Expr} {f : Ro → Res PyData} (h : PE X e (tB K mg W f)) : PO X (some e) (tPs K mg W (e1 asI f)) := (po_some h).imp fun σ H Q ⟨B, F0, F, ρ, S, p⟩ => by
  refine tE.mk S p fun d F1 H1 x _ st rx p => ?_
  obtain ⟨o, eo, q⟩ := p.ofO
  cases d with
  | int i => cases eo; exact ⟨i, rx.int', q F1 H1 st⟩
  | _ => cases eo
theorem tPs.mk {σ : L2.St} {H : Hp} {B : Hp} {F0 F : Rg} {ρ : Ro} {β : Type} {f : Ro → Res (Option Int)} {r : Option Int → Res β} {P : β → Prop} {Q : Option Int → Hp → Prop} (S : Ste K B F0 F H σ ρ) (p : PostE mg W σ H P ((f ρ).bind r))
    (h : ∀ a F' H', f ρ = .ok a → Stp F H F' H' → PostE mg W σ H P (r a) → Q a H') : tPs K mg W f σ H Q := by
  refine ⟨B, F0, F, ρ, S, ?_⟩
  cases e : f ρ with
  | ok a => rw [e] at p; exact fun F' H' s => h a F' H' e s p
  | exc c k => rw [e] at p; exact p
  | bad => rw [e] at p; exact p
def eSl {β : Type} (s : PyData → Option Int → Option Int → Option β) (f : Ro → Res PyData) (l u : Ro → Res (Option Int)) : Ro → Res β := fun ρ => (f ρ).bind fun d => (l ρ).bind fun i => (u ρ).bind fun j => ofO (s d i j)
def slL (d : PyData) (i j : Option Int) : Option (List PyData) := match d with
  | .list xs => some (cutD xs i j)
  | _ => none
def slT (d : PyData) (i j : Option Int) : Option PyData := match d with
  | .list xs => some (.list (cutD xs i j))
  | .tuple xs => if HT.sIx xs.length 0 i = 0 ∧ HT.sIx xs.length xs.length j = xs.length then none else some (.tuple (cutD xs i j))
  | _ => none
theorem Rps.cut {F : Rg} {H : Hp} {xs : List V} {ds : List PyData} (r : Rps K F H xs ds) (i j : Option Int) : Rps K F H (cutV xs i j) (cutD ds i j) := by
  unfold cutV cutD
  rw [r.length]
  exact Rps.take _ (Rps.drop _ r)
theorem pf_slN {e : Expr} {lo hi : Option Expr} {p2 : Pos} {f : Ro → Res PyData} {l u : Ro → Res (Option Int)} (he : PE X e (tB K mg W f)) (hl : PO X lo (tPs K mg W l)) (hu : PO X hi (tPs K mg W u)) : PE X (.Subscript e (.Slice lo hi none p2) pos) (tN K mg W (eSl slL f l u)) :=
  (pe_slice sl_list he hl hu).imp fun σ H Q ⟨B, F0, F, ρ, S, p⟩ => by
    refine tE.mk S p fun d F1 H1 x _ st1 rx p => ?_
    refine tPs.mk (S.stp st1) (p.mono st1.keep) fun i F2 H2 _ st2 p => ?_
    refine tPs.mk (S.stp (st1.trans st2)) (p.mono st2.keep) fun j F3 H3 _ st3 p => ?_
    obtain ⟨z, ez, q⟩ := p.ofO
    have s13 := st1.trans (st2.trans st3)
    cases d with
    | list ds =>
      cases ez
      obtain ⟨a, xs, rfl, ha, r⟩ := (rx.stp (st2.trans st3)).list
      exact ⟨a, xs, rfl, SqL.of ha, fun p hp => q _ _ _ (s13.trans (Stp.lay hp)) ⟨p, _, rfl, s13.keep.free hp, fun z => (S.stp s13).trk p z hp, upd_same, (r.cut i j).stp (Stp.lay hp)⟩⟩
    | _ => cases ez
theorem pf_slF {e : Expr} {lo hi : Option Expr} {p2 : Pos} {f : Ro → Res PyData} {l u : Ro → Res (Option Int)} (hK : X.K = K) (he : PE X e (tB K mg W f)) (hl : PO X lo (tPs K mg W l)) (hu : PO X hi (tPs K mg W u)) : PE X (.Subscript e (.Slice lo hi none p2) pos) (tF K mg W (eSl slT f l u)) :=
  (pe_slice (sl_list.or sl_tup) he hl hu).imp fun σ H Q ⟨B, F0, F, ρ, S, p⟩ => by
    refine tE.mk S p fun d F1 H1 x _ st1 rx p => ?_
    refine tPs.mk (S.stp st1) (p.mono st1.keep) fun i F2 H2 _ st2 p => ?_
    refine tPs.mk (S.stp (st1.trans st2)) (p.mono st2.keep) fun j F3 H3 _ st3 p => ?_
    obtain ⟨z, ez, q⟩ := p.ofO
    have s13 := st1.trans (st2.trans st3)
    cases d with
    | list ds =>
      cases ez
      obtain ⟨a, xs, rfl, ha, r⟩ := (rx.stp (st2.trans st3)).list
      exact .inl ⟨a, xs, rfl, SqL.of ha, fun p hp => q _ _ _ (s13.trans (Stp.add hp)) (Rp.newL hp (r.cut i j))⟩
    | tuple ds =>
      unfold slT at ez
      dsimp only at ez
      split at ez
      · cases ez
      · rename_i hn
        cases ez
        obtain ⟨a, xs, rfl, ha, r⟩ := (rx.stp (st2.trans st3)).tuple
        exact .inr ⟨a, xs, rfl, hK ▸ ha, by rw [r.length]; exact hn, fun p hp => q _ _ _ (s13.trans (Stp.add hp)) (Rp.newT hp (r.cut i j))⟩
    | _ => cases ez
/-- xs[::-1] -/
def revL : PyData → Option (List PyData)
  | .list xs => some xs.reverse
  | _ => none
theorem pf_revN {e : Expr} {k : Nat} {p1 p2 p3 : Pos} {f : Ro → Res PyData} (he : PE X e (tB K mg W f)) : PE X (.Subscript e (.Slice none none (some (.UnaryOp .USub (.Constant (.int 1) k p1) p2)) p3) pos) (tN K mg W (e1 revL f)) :=
  (pe_revL he).imp fun σ H Q ⟨B, F0, F, ρ, S, p⟩ => by
    refine tE.mk S p fun d F1 H1 x _ st rx p => ?_
    obtain ⟨z, ez, q⟩ := p.ofO
    cases d with
    | list ds =>
      cases ez
      obtain ⟨a, xs, rfl, ha, r⟩ := rx.list
      exact ⟨a, xs, rfl, SqL.of ha, fun p hp => q _ _ _ (st.trans (Stp.lay hp)) ⟨p, _, rfl, st.keep.free hp, fun z => (S.stp st).trk p z hp, upd_same, r.reverse.stp (Stp.lay hp)⟩⟩
    | _ => cases ez

/-! ### built-ins -/
def SemC (K : PySem.W.Frag) (r : List V → Hp → VK → Prop) (s : List PyData → Option PyData) : Prop := ∀ (F : Rg) (H : Hp) (vs : List V) (ds : List PyData) (z : PyData) (Q : VK), RpBs K F H vs ds → s ds = some z →
  (∀ F' H' v, Stp F H F' H' → Rp K F' H' v z → Q v H') → r vs H Q
theorem tCB_of {r : List V → Hp → VK → Prop} {s : List PyData → Option PyData} {g : Ro → Res (List PyData)} (hs : SemC K r s) {σ : L2.St} {H : Hp} {Q : VK} (h : tF K mg W (e1 s g) σ H Q) : tCB r (tABs K mg W g) σ H Q := by
  obtain ⟨B, F0, F, ρ, S, p⟩ := h
  refine tABs.mk S p fun ds F1 H1 vs _ st rs p => ?_
  obtain ⟨z, ez, q⟩ := p.ofO
  exact hs F1 H1 vs ds z Q rs ez fun F' H' v st2 r => q F' H' v (st.trans st2) r
theorem pf_callB {id : String} {x : Str} {p : Pos} {r : List V → Hp → VK → Prop} {s : List PyData → Option PyData} {e : Expr} {es : List Expr} {g : Ro → Res (List PyData)} (hc : CallR X (.builtin id) r) (hs : SemC K r s) (hg : Gl X x) (hm : X.mg x = none) (hv : bootBuiltins x = some (.builtin id)) (ha : PA X (e :: es) (tABs K mg W g))
    (hn : x ≠ "__name__" := by decide) (hdb : (x == ("__debug__" : Str)) = false := by decide) (he : starEach (e :: es) X.env = (false, eval e X.env) :: starEach es X.env := by rfl) (hpl : (backTo pos (starEach es X.env)).any (·.1) = false := by rfl) :
    PE X (.Call (.Name x p) (e :: es) [] pos) (tF K mg W (e1 s g)) := (pe_callB hc hg hm hv ha hn hdb he hpl).imp fun _ _ _ h => tCB_of hs h
theorem pf_callTy {T : String} {x : Str} {p : Pos} {r : List V → Hp → VK → Prop} {s : List PyData → Option PyData} {e : Expr} {es : List Expr} {g : Ro → Res (List PyData)} (hc : CallR X (.type T) r) (hs : SemC K r s) (hg : Gl X x) (hm : X.mg x = none) (hv : bootBuiltins x = some (.type T)) (ha : PA X (e :: es) (tABs K mg W g))
    (hn : x ≠ "__name__" := by decide) (hdb : (x == ("__debug__" : Str)) = false := by decide) (he : starEach (e :: es) X.env = (false, eval e X.env) :: starEach es X.env := by rfl) (hpl : (backTo pos (starEach es X.env)).any (·.1) = false := by rfl) :
    PE X (.Call (.Name x p) (e :: es) [] pos) (tF K mg W (e1 s g)) := (pe_callTy hc hg hm hv ha hn hdb he hpl).imp fun _ _ _ h => tCB_of hs h
/-- the result a new list of one's own -/
def SemCN (K : PySem.W.Frag) (r : List V → Hp → VK → Prop) (s : List PyData → Option (List PyData)) : Prop := ∀ (F : Rg) (H : Hp) (vs : List V) (ds z : List PyData) (Q : VK), RpBs K F H vs ds → s ds = some z →
  (∀ p xs, H p = none → Rps K F H xs z → Q (.ref p) (upd H p (.lst xs))) → r vs H Q
theorem tCBN_of {r : List V → Hp → VK → Prop} {s : List PyData → Option (List PyData)} {g : Ro → Res (List PyData)} (hs : SemCN K r s) {σ : L2.St} {H : Hp} {Q : VK} (h : tN K mg W (e1 s g) σ H Q) : tCB r (tABs K mg W g) σ H Q := by
  obtain ⟨B, F0, F, ρ, S, p⟩ := h
  refine tABs.mk S p fun ds F1 H1 vs _ st rs p => ?_
  obtain ⟨z, ez, q⟩ := p.ofO
  exact hs F1 H1 vs ds z Q rs ez fun p xs hp r => q F1 _ _ (st.trans (Stp.lay hp)) ⟨p, xs, rfl, st.keep.free hp, fun z => (S.stp st).trk p z hp, upd_same, r.stp (Stp.lay hp)⟩
theorem pf_callBN {id : String} {x : Str} {p : Pos} {r : List V → Hp → VK → Prop} {s : List PyData → Option (List PyData)} {e : Expr} {es : List Expr} {g : Ro → Res (List PyData)} (hc : CallR X (.builtin id) r) (hs : SemCN K r s) (hg : Gl X x) (hm : X.mg x = none) (hv : bootBuiltins x = some (.builtin id)) (ha : PA X (e :: es) (tABs K mg W g))
    (hn : x ≠ "__name__" := by decide) (hdb : (x == ("__debug__" : Str)) = false := by decide) (he : starEach (e :: es) X.env = (false, eval e X.env) :: starEach es X.env := by rfl) (hpl : (backTo pos (starEach es X.env)).any (·.1) = false := by rfl) :
    PE X (.Call (.Name x p) (e :: es) [] pos) (tN K mg W (e1 s g)) := (pe_callB hc hg hm hv ha hn hdb he hpl).imp fun _ _ _ h => tCBN_of hs h
theorem pf_callTyN {T : String} {x : Str} {p : Pos} {r : List V → Hp → VK → Prop} {s : List PyData → Option (List PyData)} {e : Expr} {es : List Expr} {g : Ro → Res (List PyData)} (hc : CallR X (.type T) r) (hs : SemCN K r s) (hg : Gl X x) (hm : X.mg x = none) (hv : bootBuiltins x = some (.type T)) (ha : PA X (e :: es) (tABs K mg W g))
    (hn : x ≠ "__name__" := by decide) (hdb : (x == ("__debug__" : Str)) = false := by decide) (he : starEach (e :: es) X.env = (false, eval e X.env) :: starEach es X.env := by rfl) (hpl : (backTo pos (starEach es X.env)).any (·.1) = false := by rfl) :
    PE X (.Call (.Name x p) (e :: es) [] pos) (tN K mg W (e1 s g)) := (pe_callTy hc hg hm hv ha hn hdb he hpl).imp fun _ _ _ h => tCBN_of hs h
def lenD : List PyData → Option PyData
  | [.list xs] => some (.int xs.length)
  | [.tuple xs] => some (.int xs.length)
  | [.dict ps] => some (.int ps.length)
  | _ => none
theorem sem_len : SemC K (fun xs H Q => ∃ x n, xs = [x] ∧ LenV K x H n ∧ Q (.int n) H) lenD := by
  intro F H vs ds z Q rs hs h
  unfold lenD at hs
  split at hs
  · cases hs
    obtain ⟨v, rfl, rv⟩ := rs.one
    obtain ⟨a, xs, rfl, ha, r⟩ := rv.list
    refine ⟨_, xs.length, rfl, .inl ⟨xs, SqL.of ha, rfl⟩, ?_⟩
    rw [r.length]
    exact h F H _ Stp.refl (.int _)
  · cases hs
    obtain ⟨v, rfl, rv⟩ := rs.one
    obtain ⟨a, xs, rfl, ha, r⟩ := rv.tuple
    refine ⟨_, xs.length, rfl, .inr ⟨xs, ha, rfl⟩, ?_⟩
    rw [r.length]
    exact h F H _ Stp.refl (.int _)
  · cases hs
    obtain ⟨v, rfl, rv⟩ := rs.one
    have key : ∀ {a : Addr} {ns : List Int}, SqL K H a (ns.map V.int) → Q (.int (ns.map fun n => (PyData.none, PyData.int n)).length) H → ∃ x n, [V.ref a] = [x] ∧ LenV K x H n ∧ Q (.int n) H := fun {a ns} sq q =>
      ⟨_, ns.length, rfl, .inl ⟨_, sq, by rw [List.length_map]⟩, by rw [List.length_map] at q; exact q⟩
    cases rv with
    | rp rv =>
      cases rv with
      | scr f q => exact key (.inl (.inr ⟨_, q⟩)) (h F H _ Stp.refl (.int _))
      | scrK q => exact key (q.sq H) (h F H _ Stp.refl (.int _))
  · cases hs
def absD : List PyData → Option PyData
  | [.int i] => some (.int (if i < 0 then -i else i))
  | _ => none
theorem sem_abs : SemC K (fun xs H Q => ∃ i, xs = [.int i] ∧ Q (.int (if i < 0 then -i else i)) H) absD := by
  intro F H vs ds z Q rs hs h
  unfold absD at hs
  split at hs
  · cases hs
    obtain ⟨v, rfl, rv⟩ := rs.one
    exact ⟨_, by rw [rv.int'], h F H _ Stp.refl (.int _)⟩
  · cases hs
def max2D : List PyData → Option PyData
  | [.int i, .int j] => some (.int (if j > i then j else i))
  | _ => none
def min2D : List PyData → Option PyData
  | [.int i, .int j] => some (.int (if j < i then j else i))
  | _ => none
theorem sem_max2 : SemC K (fun xs H Q => ∃ i j, xs = [.int i, .int j] ∧ Q (.int (if j > i then j else i)) H) max2D := by
  intro F H vs ds z Q rs hs h
  unfold max2D at hs
  split at hs
  · cases hs
    obtain ⟨v, w, rfl, rv, rw'⟩ := rs.two
    exact ⟨_, _, by rw [rv.int', rw'.int'], h F H _ Stp.refl (.int _)⟩
  · cases hs
theorem sem_min2 : SemC K (fun xs H Q => ∃ i j, xs = [.int i, .int j] ∧ Q (.int (if j < i then j else i)) H) min2D := by
  intro F H vs ds z Q rs hs h
  unfold min2D at hs
  split at hs
  · cases hs
    obtain ⟨v, w, rfl, rv, rw'⟩ := rs.two
    exact ⟨_, _, by rw [rv.int', rw'.int'], h F H _ Stp.refl (.int _)⟩
  · cases hs
def intD : List PyData → Option PyData
  | [.int i] => some (.int i)
  | [.bool b] => some (.int (if b then 1 else 0))
  | _ => none
theorem sem_int : SemC K (fun xs H Q => (∃ i, xs = [.int i] ∧ Q (.int i) H) ∨ ∃ k, xs = [.bl k] ∧ Q (.int (if k then 1 else 0)) H) intD := by
  intro F H vs ds z Q rs hs h
  unfold intD at hs
  split at hs
  · cases hs
    obtain ⟨v, rfl, rv⟩ := rs.one
    exact .inl ⟨_, by rw [rv.int'], h F H _ Stp.refl (.int _)⟩
  · cases hs
    obtain ⟨v, rfl, rv⟩ := rs.one
    exact .inr ⟨_, by rw [rv.bool'], h F H _ Stp.refl (.int _)⟩
  · cases hs
/-- a list of ints, of bools, as plain lists -/
def intsO : List PyData → Option (List Int)
  | [] => some []
  | .int i :: ds => (intsO ds).map (i :: ·)
  | _ => none
def boolsO : List PyData → Option (List Bool)
  | [] => some []
  | .bool i :: ds => (boolsO ds).map (i :: ·)
  | _ => none
theorem intsO_eq : ∀ {ds : List PyData} {ns : List Int}, intsO ds = some ns → ds = ns.map PyData.int
  | [], ns, h => by cases h; rfl
  | .int i :: ds, ns, h => by
    unfold intsO at h
    cases e : intsO ds with
    | none => rw [e] at h; cases h
    | some ms => rw [e] at h; cases h; rw [intsO_eq e]; rfl
  | .none :: _, _, h => by cases h
  | .bool _ :: _, _, h => by cases h
  | .str _ :: _, _, h => by cases h
  | .list _ :: _, _, h => by cases h
  | .tuple _ :: _, _, h => by cases h
  | .dict _ :: _, _, h => by cases h
@[simp] theorem intsO_map (ns : List Int) : intsO (ns.map PyData.int) = some ns := by
  induction ns with
  | nil => rfl
  | cons n ns ih => rw [List.map_cons, intsO, ih]; rfl
theorem boolsO_eq : ∀ {ds : List PyData} {ns : List Bool}, boolsO ds = some ns → ds = ns.map PyData.bool
  | [], ns, h => by cases h; rfl
  | .bool i :: ds, ns, h => by
    unfold boolsO at h
    cases e : boolsO ds with
    | none => rw [e] at h; cases h
    | some ms => rw [e] at h; cases h; rw [boolsO_eq e]; rfl
  | .none :: _, _, h => by cases h
  | .int _ :: _, _, h => by cases h
  | .str _ :: _, _, h => by cases h
  | .list _ :: _, _, h => by cases h
  | .tuple _ :: _, _, h => by cases h
  | .dict _ :: _, _, h => by cases h
@[simp] theorem boolsO_map (ns : List Bool) : boolsO (ns.map PyData.bool) = some ns := by
  induction ns with
  | nil => rfl
  | cons n ns ih => rw [List.map_cons, boolsO, ih]; rfl
def sumD : List PyData → Option PyData
  | [.list ds] => (intsO ds).map fun ns => .int ns.sum
  | _ => none
theorem ints_of {F : Rg} {H : Hp} {v : V} {ds : List PyData} {ns : List Int} (rv : RpB K F H v (.list ds)) (e : intsO ds = some ns) : ∃ a, v = .ref a ∧ H a = some (.lst (ns.map V.int)) := by
  obtain ⟨a, xs, rfl, ha, r⟩ := rv.list
  rw [intsO_eq e] at r
  rw [r.ints] at ha
  exact ⟨a, rfl, ha⟩
theorem sem_sum : SemC K (rSum K) sumD := by
  intro F H vs ds z Q rs hs h
  unfold sumD at hs
  split at hs
  · rename_i ds
    cases e : intsO ds with
    | none => rw [e] at hs; cases hs
    | some ns =>
      rw [e] at hs
      cases hs
      obtain ⟨v, rfl, rv⟩ := rs.one
      obtain ⟨a, rfl, ha⟩ := ints_of rv e
      exact ⟨a, ns, rfl, SqL.of ha, h F H _ Stp.refl (.int _)⟩
  · cases hs
def maxL : List Int → Option Int
  | [] => none
  | n :: ns => some (ns.foldl max n)
def minL : List Int → Option Int
  | [] => none
  | n :: ns => some (ns.foldl min n)
theorem foldl_max_ge : ∀ (ns : List Int) (a : Int), a ≤ ns.foldl max a ∧ ∀ y ∈ ns, y ≤ ns.foldl max a
  | [], a => ⟨Int.le_refl a, fun _ h => by cases h⟩
  | n :: ns, a => by
    obtain ⟨h1, h2⟩ := foldl_max_ge ns (max a n)
    refine ⟨by rw [List.foldl_cons]; omega, fun y hy => ?_⟩
    rw [List.foldl_cons]
    rcases List.mem_cons.mp hy with rfl | hy
    · omega
    · exact h2 y hy
theorem foldl_max_mem : ∀ (ns : List Int) (a : Int), ns.foldl max a = a ∨ ns.foldl max a ∈ ns
  | [], a => .inl rfl
  | n :: ns, a => by
    rw [List.foldl_cons]
    rcases foldl_max_mem ns (max a n) with h | h
    · rw [h]
      by_cases c : a ≤ n
      · right; rw [Int.max_eq_right c]; exact List.mem_cons_self ..
      · left; exact Int.max_eq_left (by omega)
    · exact .inr (List.mem_cons_of_mem _ h)
theorem foldl_min_le : ∀ (ns : List Int) (a : Int), ns.foldl min a ≤ a ∧ ∀ y ∈ ns, ns.foldl min a ≤ y
  | [], a => ⟨Int.le_refl a, fun _ h => by cases h⟩
  | n :: ns, a => by
    obtain ⟨h1, h2⟩ := foldl_min_le ns (min a n)
    refine ⟨by rw [List.foldl_cons]; omega, fun y hy => ?_⟩
    rw [List.foldl_cons]
    rcases List.mem_cons.mp hy with rfl | hy
    · omega
    · exact h2 y hy
theorem foldl_min_mem : ∀ (ns : List Int) (a : Int), ns.foldl min a = a ∨ ns.foldl min a ∈ ns
  | [], a => .inl rfl
  | n :: ns, a => by
    rw [List.foldl_cons]
    rcases foldl_min_mem ns (min a n) with h | h
    · rw [h]
      by_cases c : a ≤ n
      · left; exact Int.min_eq_left c
      · right; rw [Int.min_eq_right (by omega)]; exact List.mem_cons_self ..
    · exact .inr (List.mem_cons_of_mem _ h)
theorem maxL_spec {ns : List Int} {m : Int} (h : maxL ns = some m) : m ∈ ns ∧ ∀ y ∈ ns, y ≤ m := by
  cases ns with
  | nil => cases h
  | cons n ns =>
    cases h
    refine ⟨(foldl_max_mem ns n).elim (fun e => by rw [e]; exact List.mem_cons_self ..) (List.mem_cons_of_mem _), fun y hy => ?_⟩
    rcases List.mem_cons.mp hy with rfl | hy
    · exact (foldl_max_ge ns y).1
    · exact (foldl_max_ge ns n).2 y hy
theorem minL_spec {ns : List Int} {m : Int} (h : minL ns = some m) : m ∈ ns ∧ ∀ y ∈ ns, m ≤ y := by
  cases ns with
  | nil => cases h
  | cons n ns =>
    cases h
    refine ⟨(foldl_min_mem ns n).elim (fun e => by rw [e]; exact List.mem_cons_self ..) (List.mem_cons_of_mem _), fun y hy => ?_⟩
    rcases List.mem_cons.mp hy with rfl | hy
    · exact (foldl_min_le ns y).1
    · exact (foldl_min_le ns n).2 y hy
def maxD : List PyData → Option PyData
  | [.list ds] => (intsO ds).bind fun ns => (maxL ns).map PyData.int
  | _ => none
def minD : List PyData → Option PyData
  | [.list ds] => (intsO ds).bind fun ns => (minL ns).map PyData.int
  | _ => none
theorem sem_max : SemC K (rMax K) maxD := by
  intro F H vs ds z Q rs hs h
  unfold maxD at hs
  split at hs
  · rename_i ds
    cases e : intsO ds with
    | none => rw [e] at hs; cases hs
    | some ns =>
      rw [e] at hs
      have hs : (maxL ns).map PyData.int = some z := hs
      cases em : maxL ns with
      | none => rw [em] at hs; cases hs
      | some m =>
        rw [em] at hs
        cases hs
        obtain ⟨s1, s2⟩ := maxL_spec em
        obtain ⟨v, rfl, rv⟩ := rs.one
        obtain ⟨a, rfl, ha⟩ := ints_of rv e
        refine ⟨a, ns, rfl, SqL.of ha, List.length_pos_of_mem s1, fun m' h1 h2 => ?_⟩
        have : m' = m := by have := s2 m' h1; have := h2 m s1; omega
        rw [this]
        exact h F H _ Stp.refl (.int _)
  · cases hs
theorem sem_min : SemC K (rMin K) minD := by
  intro F H vs ds z Q rs hs h
  unfold minD at hs
  split at hs
  · rename_i ds
    cases e : intsO ds with
    | none => rw [e] at hs; cases hs
    | some ns =>
      rw [e] at hs
      have hs : (minL ns).map PyData.int = some z := hs
      cases em : minL ns with
      | none => rw [em] at hs; cases hs
      | some m =>
        rw [em] at hs
        cases hs
        obtain ⟨s1, s2⟩ := minL_spec em
        obtain ⟨v, rfl, rv⟩ := rs.one
        obtain ⟨a, rfl, ha⟩ := ints_of rv e
        refine ⟨a, ns, rfl, SqL.of ha, List.length_pos_of_mem s1, fun m' h1 h2 => ?_⟩
        have : m' = m := by have := s2 m' h1; have := h2 m s1; omega
        rw [this]
        exact h F H _ Stp.refl (.int _)
  · cases hs
def allD : List PyData → Option PyData
  | [.list ds] => (boolsO ds).map fun bs => .bool (bs.all id)
  | _ => none
def anyD : List PyData → Option PyData
  | [.list ds] => (boolsO ds).map fun bs => .bool (bs.any id)
  | _ => none
theorem bools_of {F : Rg} {H : Hp} {v : V} {ds : List PyData} {ns : List Bool} (rv : RpB K F H v (.list ds)) (e : boolsO ds = some ns) : ∃ a, v = .ref a ∧ H a = some (.lst (ns.map V.bl)) := by
  obtain ⟨a, xs, rfl, ha, r⟩ := rv.list
  rw [boolsO_eq e] at r
  rw [r.bools] at ha
  exact ⟨a, rfl, ha⟩
theorem sem_all : SemC K (rAll K) allD := by
  intro F H vs ds z Q rs hs h
  unfold allD at hs
  split at hs
  · rename_i ds
    cases e : boolsO ds with
    | none => rw [e] at hs; cases hs
    | some ns =>
      rw [e] at hs
      cases hs
      obtain ⟨v, rfl, rv⟩ := rs.one
      obtain ⟨a, rfl, ha⟩ := bools_of rv e
      exact ⟨a, ns, rfl, SqL.of ha, h F H _ Stp.refl (.bl _)⟩
  · cases hs
theorem sem_any : SemC K (rAny K) anyD := by
  intro F H vs ds z Q rs hs h
  unfold anyD at hs
  split at hs
  · rename_i ds
    cases e : boolsO ds with
    | none => rw [e] at hs; cases hs
    | some ns =>
      rw [e] at hs
      cases hs
      obtain ⟨v, rfl, rv⟩ := rs.one
      obtain ⟨a, rfl, ha⟩ := bools_of rv e
      exact ⟨a, ns, rfl, SqL.of ha, h F H _ Stp.refl (.bl _)⟩
  · cases hs
/-- list(xs) -/
def listN : List PyData → Option (List PyData)
  | [.list xs] => some xs
  | [.tuple xs] => some xs
  | _ => none
theorem sem_list : SemCN K (fun xs H Q => ∃ p ys, xs = [.ref p] ∧ (SqL K H p ys ∨ SqT K H p ys) ∧ ∀ l, H l = none → Q (.ref l) (upd H l (.lst ys))) listN := by
  intro F H vs ds z Q rs hs h
  unfold listN at hs
  split at hs
  · cases hs
    obtain ⟨v, rfl, rv⟩ := rs.one
    obtain ⟨a, xs, rfl, ha, r⟩ := rv.list
    exact ⟨a, xs, rfl, .inl (SqL.of ha), fun p hp => h p xs hp r⟩
  · cases hs
    obtain ⟨v, rfl, rv⟩ := rs.one
    obtain ⟨a, xs, rfl, ha, r⟩ := rv.tuple
    exact ⟨a, xs, rfl, .inr ha, fun p hp => h p xs hp r⟩
  · cases hs
/-- tuple(xs) -/
def tupleD : List PyData → Option PyData
  | [.list xs] => some (.tuple xs)
  | _ => none
theorem sem_tuple : SemC K (fun xs H Q => ∃ p ys, xs = [.ref p] ∧ ((SqL K H p ys ∧ ∀ l, H l = none → Q (.ref l) (upd H l (.tup ys))) ∨ (SqT K H p ys ∧ Q (.ref p) H))) tupleD := by
  intro F H vs ds z Q rs hs h
  unfold tupleD at hs
  split at hs
  · cases hs
    obtain ⟨v, rfl, rv⟩ := rs.one
    obtain ⟨a, xs, rfl, ha, r⟩ := rv.list
    exact ⟨a, xs, rfl, .inl ⟨SqL.of ha, fun p hp => h _ _ _ (Stp.add hp) (Rp.newT hp r)⟩⟩
  · cases hs
/-- sorted(xs), ints -/
def sortI (ns : List Int) : List Int := ns.mergeSort fun a b => decide (a ≤ b)
def sortedN : List PyData → Option (List PyData)
  | [.list ds] => (intsO ds).map fun ns => (sortI ns).map PyData.int
  | _ => none
theorem sorted_uniq : ∀ {l m : List Int}, l.Perm m → l.Pairwise (· ≤ ·) → m.Pairwise (· ≤ ·) → l = m
  | [], m, p, _, _ => (List.Perm.eq_nil p.symm).symm ▸ rfl
  | a :: l, m, p, h1, h2 => by
    cases m with
    | nil => exact absurd p.length_eq (by simp)
    | cons b m =>
      have ab : a = b := by
        have hb : b ∈ a :: l := p.mem_iff.mpr (List.mem_cons_self ..)
        have ha : a ∈ b :: m := p.mem_iff.mp (List.mem_cons_self ..)
        have i1 : a ≤ b := by
          rcases List.mem_cons.mp hb with e | hb
          · omega
          · exact (List.pairwise_cons.mp h1).1 b hb
        have i2 : b ≤ a := by
          rcases List.mem_cons.mp ha with e | ha
          · omega
          · exact (List.pairwise_cons.mp h2).1 a ha
        omega
      subst ab
      rw [sorted_uniq (List.Perm.cons_inv p) (List.pairwise_cons.mp h1).2 (List.pairwise_cons.mp h2).2]
theorem sortI_perm (ns : List Int) : (sortI ns).Perm ns := List.mergeSort_perm _ _
theorem sortI_sorted (ns : List Int) : (sortI ns).Pairwise (· ≤ ·) := by
  have h := List.pairwise_mergeSort (le := fun a b : Int => decide (a ≤ b)) (by intro a b c h1 h2; simp only [decide_eq_true_eq] at h1 h2 ⊢; omega) (by intro a b; simp only [Bool.or_eq_true, decide_eq_true_eq]; omega) ns
  exact h.imp fun {a b} h => of_decide_eq_true h
theorem sem_sorted : SemCN K (rSortedI K) sortedN := by
  intro F H vs ds z Q rs hs h
  unfold sortedN at hs
  split at hs
  · rename_i ds
    cases e : intsO ds with
    | none => rw [e] at hs; cases hs
    | some ns =>
      rw [e] at hs
      cases hs
      obtain ⟨v, rfl, rv⟩ := rs.one
      obtain ⟨a, rfl, ha⟩ := ints_of rv e
      refine ⟨a, ns, rfl, SqL.of ha, fun ns' p hp ho hn => ?_⟩
      rw [sorted_uniq (hp.trans (sortI_perm ns).symm) ho (sortI_sorted ns)]
      exact h p _ hn Rps.of_ints
  · cases hs
end
end Pf
/-! Pf4: calls of defs; what is walked; targets; comprehensions. -/
namespace Pf
open PySem PySem.Spec PyProof.Rows L2

abbrev W0 : WX := fun _ _ _ _ => False

/-! ### defs -/
def spOf (K : PySem.W.Frag) (mg : Str → Option Value) (n : Nat) (m : List PyData → Res PyData) : Sp := fun vs H Q E =>
  vs.length = n ∧ ∃ (F : Rg) (ds : List PyData), (∀ a, F a → H a ≠ none) ∧ Rps K F H vs ds ∧ match m ds with
    | .ok d => ∀ F' H' v, Stp F H F' H' → Rp K F' H' v d → Q v H'
    | .exc c k => ∀ (H' : Hp) (dx C : Addr), Same H H' → H' dx = some (.xd [("at", .int k)]) → mg c = some (.ref C) → E (.ref C) (some dx) H'
    | .bad => False
section
variable {X : Cx} {W : WX} {pos : Pos}
theorem pf_call {x : Str} {p : Pos} {k n : Nat} {f : Addr} {fd : FuncData} {ps : List Str} {m : List PyData → Res PyData} {e : Expr} {es : List Expr} {g : Ro → Res (List PyData)} (Fo : FnOk X.prog X.w X.K X.mg X.base (L2.CX X.prog X.w) k f fd ps (spOf X.K X.mg n m)) (hr : Room k X.A) (hg : Gl X x) (hm : X.mg x = some (.ref f)) (hk : PySem.W.keepIn X.K (.ref f) = true) (hb : Binds X.K fd ps [])
    (tk : Takes X W) (ha : PA X (e :: es) (tAs X.K X.mg W g)) (hl : ∀ ρ ds, g ρ = .ok ds → ds.length = n) (hdb : (x == ("__debug__" : Str)) = false := by decide) (he : starEach (e :: es) X.env = (false, eval e X.env) :: starEach es X.env := by rfl) (hpl : (backTo pos (starEach es X.env)).any (·.1) = false := by rfl) :
    PE X (.Call (.Name x p) (e :: es) [] pos) (tF X.K X.mg W (eCall m g)) :=
  (pe_callS (E := WE W) Fo hr hg hm hk hb (fun σ => passAt tk σ) ha hdb he hpl).imp fun σ H Q ⟨B, F0, F, ρ, S, p⟩ => by
    refine tAs.mk S p fun ds F1 H1 vs e st rs q => ?_
    refine ⟨by rw [rs.length]; exact hl ρ ds e, F1, ds, (S.stp st).trk, rs, ?_⟩
    cases em : m ds with
    | ok d => rw [em] at q; exact fun F' H' v st2 r => q F' H' v (st.trans st2) r
    | exc c k => rw [em] at q; exact fun H' dx C s h1 h2 => q H' dx C (st.keep.trans s) h1 h2
    | bad => rw [em] at q; exact q
end

/-! ### what is walked -/
structure Kept (Z : Bool) (F1 : Rg) (H1 : Hp) (F : Rg) (H : Hp) : Prop where
  sub : ∀ a, F1 a → F a
  keep : ∀ a, (Z = true ∨ F1 a) → ∀ o, H1 a = some o → H a = some o
theorem Kept.fk {Z : Bool} {F1 F : Rg} {H1 H : Hp} (k : Kept Z F1 H1 F H) : FK F1 H1 F H := ⟨k.sub, fun a h => k.keep a (.inr h)⟩
structure GoodIt (K : PySem.W.Frag) (J : It) (Z : Bool) (F1 : Rg) (H1 : Hp) (ds : List PyData) : Prop where
  len : ds.length ≤ 16777216
  go : ∀ (i : Nat) (d : PyData) (F : Rg) (H : Hp), ds[i]? = some d → Kept Z F1 H1 F H → J.go i H ∧ ∀ x H', J.yld i H x H' → ∃ F', Stp F H F' H' ∧ Rp K F' H' x d
  stop : ∀ (F : Rg) (H : Hp), Kept Z F1 H1 F H → J.stop ds.length H
def tI (K : PySem.W.Frag) (mg : Str → Option Value) (W : WX) (Z : Bool) (fi : Ro → Res (List PyData)) : TI := fun σ H R =>
  ∃ (B : Hp) (F0 F : Rg) (ρ : Ro), Ste K B F0 F H σ ρ ∧ PostE mg W σ H (fun ds => ∀ J F' H', Stp F H F' H' → GoodIt K J Z F' H' ds → R J H') (fi ρ)
theorem _root_.L2.PI.imp {X : Cx} {tg e : Expr} {t t' : TI} (h : PI X tg e t) (i : ∀ σ H R, t' σ H R → t σ H R) : PI X tg e t' := ⟨fun pins s σ H Q I q => h.run pins s σ H Q I (i σ H Q q)⟩
theorem _root_.L2.PI.or {X : Cx} {tg e : Expr} {t t' : TI} (h : PI X tg e t) (h' : PI X tg e t') : PI X tg e (fun σ H R => t σ H R ∨ t' σ H R) := ⟨fun pins s σ H Q I q => q.elim (h.run pins s σ H Q I) (h'.run pins s σ H Q I)⟩
section
variable {X : Cx} {K : PySem.W.Frag} {mg : Str → Option Value} {W : WX} {Z : Bool} {tg : Expr} {pos : Pos}
def itL : PyData → Option (List PyData)
  | .list xs => some xs
  | .tuple xs => some xs
  | _ => none
theorem good_list {F1 : Rg} {H1 : Hp} {a : Addr} {xs : List V} {ds : List PyData} (hZ : Z = true ∨ F1 a) (ha : H1 a = some (.lst xs)) (r : Rps K F1 H1 xs ds) (hl : ds.length ≤ 16777216) : GoodIt K (Itl K a) Z F1 H1 ds where
  len := hl
  go := fun i d F H e k => by
    obtain ⟨v, h1, h2⟩ := r.get e
    have ha' := k.keep a hZ _ ha
    refine ⟨⟨xs, v, SqL.of ha', h1⟩, fun x H' y => ?_⟩
    obtain ⟨rfl, y⟩ := y
    have := y xs (SqL.of ha')
    rw [h1] at this
    cases this
    exact ⟨F, Stp.refl, h2.fk k.fk⟩
  stop := fun F H k => ⟨xs, SqL.of (k.keep a hZ _ ha), by rw [r.length]; exact Nat.le_refl _⟩
theorem SqT.kept {F1 F : Rg} {H1 H : Hp} {a : Addr} {xs : List V} {ds : List PyData} (h : Rp K F1 H1 (.ref a) (.tuple ds)) (k : FK F1 H1 F H) : Rp K F H (.ref a) (.tuple ds) := h.fk k
theorem good_tup {F1 : Rg} {H1 : Hp} {a : Addr} {ds : List PyData} (h : Rp K F1 H1 (.ref a) (.tuple ds)) (hl : ds.length ≤ 16777216) : GoodIt K (Itt K a) Z F1 H1 ds := by
  have key : ∃ xs, (∀ F H, FK F1 H1 F H → SqT K H a xs) ∧ Rps K F1 H1 xs ds := by
    cases h with
    | tup f q r => exact ⟨_, fun F H k => SqT.of (k.keep a f _ q), r⟩
    | tupK q r => exact ⟨_, fun F H k => q.sq H, r⟩
  obtain ⟨xs, hq, r⟩ := key
  refine ⟨hl, fun i d F H e k => ?_, fun F H k => ⟨xs, hq F H k.fk, by rw [r.length]; exact Nat.le_refl _⟩⟩
  obtain ⟨v, h1, h2⟩ := r.get e
  refine ⟨⟨xs, v, hq F H k.fk, h1⟩, fun x H' y => ?_⟩
  obtain ⟨rfl, y⟩ := y
  have := y xs (hq F _ k.fk)
  rw [h1] at this
  cases this
  exact ⟨F, Stp.refl, h2.fk k.fk⟩
/-- over a list or tuple in the region -/
theorem pf_iF {l : Expr} {f : Ro → Res PyData} (hK : X.K = K) (h : PE X l (tF K mg W f)) : PI X tg l (tI K mg W Z (e1 itL f)) :=
  ((pi_list h.len).or (pi_tup h.len)).imp fun σ H R ⟨B, F0, F, ρ, S, p⟩ => by
    unfold e1 at p
    subst hK
    cases e : f ρ with
    | ok d =>
      rw [e] at p
      cases d with
      | list ds =>
        refine .inl ⟨B, F0, F, ρ, S, ?_⟩
        rw [e]
        have p : ∀ J F' H', Stp F H F' H' → GoodIt X.K J Z F' H' ds → R J H' := p
        intro F' H' v st r hlen
        cases r with
        | lst f q r => exact ⟨_, rfl, ⟨_, SqL.of q⟩, p _ _ _ st (good_list (.inr f) q r (by rw [← r.length]; have := (hlen _ rfl).1 _ (SqL.of q); rw [sizeLine_eq] at this; exact this))⟩
      | tuple ds =>
        refine .inr ⟨B, F0, F, ρ, S, ?_⟩
        rw [e]
        have p : ∀ J F' H', Stp F H F' H' → GoodIt X.K J Z F' H' ds → R J H' := p
        intro F' H' v st r hlen
        obtain ⟨a, xs, rfl, hq, rr⟩ := (RpB.rp r).tuple
        exact ⟨a, rfl, ⟨xs, hq⟩, p _ _ _ st (good_tup r (by rw [← rr.length]; have := (hlen _ rfl).2 _ hq; rw [sizeLine_eq] at this; exact this))⟩
      | _ => exact p.elim
    | exc c k => rw [e] at p; exact .inl ⟨B, F0, F, ρ, S, by rw [e]; exact p⟩
    | bad => rw [e] at p; exact p.elim
/-- .. or one's own list, where nothing is changed meanwhile -/
theorem pf_iB {l : Expr} {f : Ro → Res PyData} (hK : X.K = K) (h : PE X l (tB K mg W f)) : PI X tg l (tI K mg W true (e1 itL f)) :=
  ((pi_list h.len).or (pi_tup h.len)).imp fun σ H R ⟨B, F0, F, ρ, S, p⟩ => by
    unfold e1 at p
    subst hK
    cases e : f ρ with
    | ok d =>
      rw [e] at p
      cases d with
      | list ds =>
        refine .inl ⟨B, F0, F, ρ, S, ?_⟩
        rw [e]
        have p : ∀ J F' H', Stp F H F' H' → GoodIt X.K J true F' H' ds → R J H' := p
        intro F' H' v st r hlen
        obtain ⟨a, xs, rfl, ha, rr⟩ := r.list
        exact ⟨a, rfl, ⟨xs, SqL.of ha⟩, p _ _ _ st (good_list (.inl rfl) ha rr (by rw [← rr.length]; have := (hlen _ rfl).1 _ (SqL.of ha); rw [sizeLine_eq] at this; exact this))⟩
      | tuple ds =>
        refine .inr ⟨B, F0, F, ρ, S, ?_⟩
        rw [e]
        have p : ∀ J F' H', Stp F H F' H' → GoodIt X.K J true F' H' ds → R J H' := p
        intro F' H' v st r hlen
        obtain ⟨a, xs, rfl, hq, rr⟩ := r.tuple
        cases r with
        | rp r => exact ⟨a, rfl, ⟨xs, hq⟩, p _ _ _ st (good_tup r (by rw [← rr.length]; have := (hlen _ rfl).2 _ hq; rw [sizeLine_eq] at this; exact this))⟩
      | _ => exact p.elim
    | exc c k => rw [e] at p; exact .inl ⟨B, F0, F, ρ, S, by rw [e]; exact p⟩
    | bad => rw [e] at p; exact p.elim
/-- over a range -/
def rngL (lo : Int) (n : Nat) : List PyData := (List.range n).map fun i => .int (lo + (i : Nat))
theorem rngL_length (lo : Int) (n : Nat) : (rngL lo n).length = n := by unfold rngL; simp
theorem rngL_get {lo : Int} {n i : Nat} {d : PyData} (h : (rngL lo n)[i]? = some d) : i < n ∧ d = .int (lo + i) := by
  unfold rngL at h
  rw [List.getElem?_map] at h
  by_cases hi : i < n
  · rw [List.getElem?_range hi] at h; cases h; exact ⟨hi, rfl⟩
  · rw [List.getElem?_eq_none (by simpa using hi)] at h; cases h
theorem good_range {F1 : Rg} {H1 : Hp} {lo : Int} {n : Nat} (hl : n ≤ 16777216) : GoodIt K (Itr lo n) Z F1 H1 (rngL lo n) where
  len := by rw [rngL_length]; exact hl
  go := fun i d F H e k => by
    obtain ⟨h1, rfl⟩ := rngL_get e
    refine ⟨h1, fun x H' y => ?_⟩
    obtain ⟨rfl, rfl⟩ := y
    exact ⟨F, Stp.refl, .int _⟩
  stop := fun F H k => by rw [rngL_length]; exact Nat.le_refl _
def rg1 : List PyData → Option (List PyData)
  | [.int j] => if -4611686018427387904 ≤ j ∧ j ≤ 16777216 then some (rngL 0 j.toNat) else none
  | _ => none
def rg2 : List PyData → Option (List PyData)
  | [.int i, .int j] => if -4611686018427387904 ≤ i ∧ i < 4611686018427387904 ∧ -4611686018427387904 ≤ j ∧ j < 4611686018427387904 ∧ j - i ≤ 16777216 then some (rngL i (j - i).toNat) else none
  | _ => none
theorem pf_range1 {a : Expr} {p : Pos} {g : Ro → Res (List PyData)} (hg : Gl X "range") (hm : X.mg "range" = none) (ha : PA X [a] (tABs K mg W g)) (hs : starEach [a] X.env = [(false, eval a X.env)] := by rfl) : PI X tg (.Call (.Name "range" p) [a] [] pos) (tI K mg W Z (e1 rg1 g)) :=
  (pi_range1 hg hm ha hs).imp fun σ H R ⟨B, F0, F, ρ, S, p⟩ => by
    refine tABs.mk S p fun ds F1 H1 vs _ st rs p => ?_
    obtain ⟨z, ez, q⟩ := p.ofO
    unfold rg1 at ez
    split at ez
    · split at ez
      · rename_i hl
        cases ez
        obtain ⟨v, rfl, rv⟩ := rs.one
        exact ⟨_, by rw [rv.int'], by omega, by omega, q _ _ _ st (good_range (by omega))⟩
      · cases ez
    · cases ez
theorem pf_range2 {a b : Expr} {p : Pos} {g : Ro → Res (List PyData)} (hg : Gl X "range") (hm : X.mg "range" = none) (ha : PA X [a, b] (tABs K mg W g)) (hs : starEach [a, b] X.env = [(false, eval a X.env), (false, eval b X.env)] := by rfl) (hs2 : starEach [b] X.env = [(false, eval b X.env)] := by rfl) : PI X tg (.Call (.Name "range" p) [a, b] [] pos) (tI K mg W Z (e1 rg2 g)) :=
  (pi_range2 hg hm ha hs hs2).imp fun σ H R ⟨B, F0, F, ρ, S, p⟩ => by
    refine tABs.mk S p fun ds F1 H1 vs _ st rs p => ?_
    obtain ⟨z, ez, q⟩ := p.ofO
    unfold rg2 at ez
    split at ez
    · split at ez
      · rename_i hl
        cases ez
        obtain ⟨v, w, rfl, rv, rw'⟩ := rs.two
        exact ⟨_, _, by rw [rv.int', rw'.int'], ⟨by omega, by omega, by omega, by omega⟩, q _ _ _ st (good_range (by omega))⟩
      · cases ez
    · cases ez
/-- enumerate(list) -/
def enumL : List PyData → Option (List PyData)
  | [.list xs] => some (xs.zipIdx.map fun p => .tuple [.int (p.2 : Nat), p.1])
  | _ => none
theorem good_enum {F1 : Rg} {H1 : Hp} {a : Addr} {xs : List V} {ds : List PyData} (hZ : Z = true ∨ F1 a) (ha : H1 a = some (.lst xs)) (r : Rps K F1 H1 xs ds) (hl : ds.length ≤ 16777216) : GoodIt K (Ite K a) Z F1 H1 (ds.zipIdx.map fun p => .tuple [.int (p.2 : Nat), p.1]) where
  len := by simpa using hl
  go := fun i d F H e k => by
    rw [List.getElem?_map, List.getElem?_zipIdx] at e
    cases e2 : ds[i]? with
    | none => rw [e2] at e; cases e
    | some d' =>
      rw [e2] at e
      obtain ⟨v, h1, h2⟩ := r.get e2
      have ha' := k.keep a hZ _ ha
      refine ⟨⟨xs, v, SqL.of ha', h1⟩, fun x H' y => ?_⟩
      obtain ⟨T, x', rfl, hT, rfl, y⟩ := y
      have := y xs (SqL.of ha')
      rw [h1] at this
      cases this
      refine ⟨_, Stp.add hT, ?_⟩
      have ed : d = .tuple [.int (i : Nat), d'] := by simpa using e.symm
      rw [ed]
      exact Rp.newT hT (.cons (.int _) (.cons (h2.fk k.fk) .nil))
  stop := fun F H k => ⟨xs, SqL.of (k.keep a hZ _ ha), by rw [r.length]; simp⟩
theorem pf_enumB {e : Expr} {p tpos : Pos} {elts : List Expr} {kk : Nat} {f : Ro → Res PyData} (hK : X.K = K) (hg : Gl X "enumerate") (hm : X.mg "enumerate" = none) (ha : PE X e (tB K mg W f)) (hs : starEach [e] X.env = [(false, eval e X.env)] := by rfl) : PI X (.Tuple elts kk tpos) (.Call (.Name "enumerate" p) [e] [] pos) (tI K mg W true (e1 enumL (eCons f eNil))) :=
  (pi_enum hg hm (pa_cons ha.len pa_nil hs) hs).imp fun σ H R ⟨B, F0, F, ρ, S, p⟩ => by
    subst hK
    unfold e1 eCons eNil at p
    have p2 : PostE mg W σ H (fun ds => ∀ J F' H', Stp F H F' H' → GoodIt X.K J true F' H' ds → R J H') ((f ρ).bind fun d => ofO (enumL [d])) := by
      cases e : f ρ with
      | _ => rw [e] at p; exact p
    refine tE.mk S p2 fun d F1 H1 x _ st rx p3 hlen => ?_
    obtain ⟨z, ez, q⟩ := p3.ofO
    cases d with
    | list ds =>
      cases ez
      obtain ⟨a, xs, rfl, ha, rr⟩ := rx.list
      exact ⟨a, xs, rfl, SqL.of ha, q _ _ _ st (good_enum (.inl rfl) ha rr (by rw [← rr.length]; have := (hlen _ rfl).1 _ (SqL.of ha); rw [sizeLine_eq] at this; exact this))⟩
    | _ => cases ez
theorem pf_enumF {e : Expr} {p tpos : Pos} {elts : List Expr} {kk : Nat} {f : Ro → Res PyData} (hK : X.K = K) (hg : Gl X "enumerate") (hm : X.mg "enumerate" = none) (ha : PE X e (tF K mg W f)) (hs : starEach [e] X.env = [(false, eval e X.env)] := by rfl) : PI X (.Tuple elts kk tpos) (.Call (.Name "enumerate" p) [e] [] pos) (tI K mg W Z (e1 enumL (eCons f eNil))) :=
  (pi_enum hg hm (pa_cons ha.len pa_nil hs) hs).imp fun σ H R ⟨B, F0, F, ρ, S, p⟩ => by
    subst hK
    unfold e1 eCons eNil at p
    have p2 : PostE mg W σ H (fun ds => ∀ J F' H', Stp F H F' H' → GoodIt X.K J Z F' H' ds → R J H') ((f ρ).bind fun d => ofO (enumL [d])) := by
      cases e : f ρ with
      | _ => rw [e] at p; exact p
    refine tE.mk S p2 fun d F1 H1 x _ st rx p3 hlen => ?_
    obtain ⟨z, ez, q⟩ := p3.ofO
    cases d with
    | list ds =>
      cases ez
      cases rx with
      | lst f ha rr => exact ⟨_, _, rfl, SqL.of ha, q _ _ _ st (good_enum (.inr f) ha rr (by rw [← rr.length]; have := (hlen _ rfl).1 _ (SqL.of ha); rw [sizeLine_eq] at this; exact this))⟩
    | _ => cases ez
/-- zip(list, list) -/
def zipL : List PyData → Option (List PyData)
  | [.list xs, .list ys] => if xs.length ≤ 16777216 then some ((xs.zip ys).map fun p => .tuple [p.1, p.2]) else none
  | _ => none
theorem good_zip {F1 : Rg} {H1 : Hp} {a b : Addr} {xs ys : List V} {ds es : List PyData} (hZ : Z = true ∨ F1 a) (hZ2 : Z = true ∨ F1 b) (ha : H1 a = some (.lst xs)) (r : Rps K F1 H1 xs ds) (hb : H1 b = some (.lst ys)) (r2 : Rps K F1 H1 ys es) (hl : ds.length ≤ 16777216) : GoodIt K (Itz K a b) Z F1 H1 ((ds.zip es).map fun p => .tuple [p.1, p.2]) where
  len := by simp; omega
  go := fun i d F H e k => by
    rw [List.getElem?_map] at e
    cases e3 : (ds.zip es)[i]? with
    | none => rw [e3] at e; cases e
    | some pr =>
      rw [e3] at e
      obtain ⟨e1, e2⟩ := List.getElem?_zip_eq_some.mp e3
      obtain ⟨v, h1, h2⟩ := r.get e1
      obtain ⟨w, g1, g2⟩ := r2.get e2
      have ha' := k.keep a hZ _ ha
      have hb' := k.keep b hZ2 _ hb
      refine ⟨⟨xs, ys, v, w, SqL.of ha', SqL.of hb', h1, g1⟩, fun x H' y => ?_⟩
      obtain ⟨T, x', y', rfl, hT, rfl, y1, y2⟩ := y
      have z1 := y1 xs (SqL.of ha')
      rw [h1] at z1
      cases z1
      have z2 := y2 ys (SqL.of hb')
      rw [g1] at z2
      cases z2
      refine ⟨_, Stp.add hT, ?_⟩
      have ed : d = .tuple [pr.1, pr.2] := by simpa using e.symm
      rw [ed]
      exact Rp.newT hT (.cons (h2.fk k.fk) (.cons (g2.fk k.fk) .nil))
  stop := fun F H k => ⟨xs, ys, SqL.of (k.keep a hZ _ ha), SqL.of (k.keep b hZ2 _ hb), by rw [r.length, r2.length, List.length_map, List.length_zip]; omega⟩
theorem pf_zipB {e e2 : Expr} {p tpos : Pos} {elts : List Expr} {kk : Nat} {g : Ro → Res (List PyData)} (hK : X.K = K) (hg : Gl X "zip") (hm : X.mg "zip" = none) (ha : PA X [e, e2] (tABs K mg W g))
    (hs : starEach [e, e2] X.env = (false, eval e X.env) :: starEach [e2] X.env := by rfl) (hpl : (backTo pos (starEach [e2] X.env)).any (·.1) = false := by rfl) : PI X (.Tuple elts kk tpos) (.Call (.Name "zip" p) [e, e2] [] pos) (tI K mg W true (e1 zipL g)) :=
  (pi_zip hg hm ha hs hpl).imp fun σ H R ⟨B, F0, F, ρ, S, p⟩ => by
    subst hK
    refine tABs.mk S p fun ds F1 H1 vs _ st rs p => ?_
    obtain ⟨z, ez, q⟩ := p.ofO
    unfold zipL at ez
    split at ez
    · split at ez
      · rename_i hl
        cases ez
        obtain ⟨v, w, rfl, rv, rw'⟩ := rs.two
        obtain ⟨a, xs, rfl, ha, r⟩ := rv.list
        obtain ⟨b, ys, rfl, hb, r2⟩ := rw'.list
        exact ⟨a, b, xs, ys, rfl, SqL.of ha, SqL.of hb, q _ _ _ st (good_zip (.inl rfl) (.inl rfl) ha r hb r2 hl)⟩
      · cases ez
    · cases ez
theorem pf_zipF {e e2 : Expr} {p tpos : Pos} {elts : List Expr} {kk : Nat} {g : Ro → Res (List PyData)} (hK : X.K = K) (hg : Gl X "zip") (hm : X.mg "zip" = none) (ha : PA X [e, e2] (tAs K mg W g))
    (hs : starEach [e, e2] X.env = (false, eval e X.env) :: starEach [e2] X.env := by rfl) (hpl : (backTo pos (starEach [e2] X.env)).any (·.1) = false := by rfl) : PI X (.Tuple elts kk tpos) (.Call (.Name "zip" p) [e, e2] [] pos) (tI K mg W Z (e1 zipL g)) :=
  (pi_zip hg hm ha hs hpl).imp fun σ H R ⟨B, F0, F, ρ, S, p⟩ => by
    subst hK
    refine tAs.mk S p fun ds F1 H1 vs _ st rs p => ?_
    obtain ⟨z, ez, q⟩ := p.ofO
    unfold zipL at ez
    split at ez
    · split at ez
      · rename_i hl
        cases ez
        cases rs with
        | cons rv rs =>
          cases rs with
          | cons rw' rs =>
            cases rs
            cases rv with
            | lst f1 ha r =>
              cases rw' with
              | lst f2 hb r2 => exact ⟨_, _, _, _, rfl, SqL.of ha, SqL.of hb, q _ _ _ st (good_zip (.inr f1) (.inr f2) ha r hb r2 hl)⟩
      · cases ez
    · cases ez
end

/-! ### targets -/
def WpEq (is : List Nat) (σ' σ : L2.St) : Prop := ∀ vs : List Nat, (∀ i ∈ is, i ∈ vs) → L2.wipe σ' vs = L2.wipe σ vs
theorem WpEq.trans {is js : List Nat} {a b c : L2.St} (h : WpEq is b a) (g : WpEq js c b) : WpEq (is ++ js) c a := fun vs hv =>
  (g vs fun i hi => hv i (List.mem_append_right _ hi)).trans (h vs fun i hi => hv i (List.mem_append_left _ hi))
theorem wipe_set (σ : L2.St) (i : Nat) (x : Option V) : ∀ vs : List Nat, L2.wipe (σ.set i x) vs = if i ∈ vs then L2.wipe σ vs else (L2.wipe σ vs).set i x
  | [] => by simp [L2.wipe]
  | v :: vs => by
    unfold L2.wipe
    rw [wipe_set σ i x vs]
    by_cases h : i ∈ vs
    · rw [if_pos h, if_pos (List.mem_cons_of_mem _ h)]
    · rw [if_neg h]
      by_cases e : i = v
      · subst e
        rw [if_pos (List.mem_cons_self ..), List.set_set]
      · rw [if_neg (by simp [e, h]), List.set_comm _ _ e]
theorem WpEq.set (σ : L2.St) (i : Nat) (x : Option V) : WpEq [i] (σ.set i x) σ := fun vs h => by
  rw [wipe_set, if_pos (h i (List.mem_cons_self ..))]
def tTg (K : PySem.W.Frag) (is : List Nat) (g : PyData → Ro → Option Ro) : TG := fun v σ H Q =>
  ∃ (B : Hp) (F0 F : Rg) (ρ : Ro) (d : PyData), Ste K B F0 F H σ ρ ∧ Rp K F H v d ∧ ∃ ρ', g d ρ = some ρ' ∧ ∀ σ', Ste K B F0 F H σ' ρ' → WpEq is σ' σ → Q σ' H
def tTgs (K : PySem.W.Frag) (is : List Nat) (g : List PyData → Ro → Option Ro) : TGs := fun vs σ H Q =>
  ∃ (B : Hp) (F0 F : Rg) (ρ : Ro) (ds : List PyData), Ste K B F0 F H σ ρ ∧ Rps K F H vs ds ∧ ∃ ρ', g ds ρ = some ρ' ∧ ∀ σ', Ste K B F0 F H σ' ρ' → WpEq is σ' σ → Q σ' H
theorem _root_.L2.PG.imp {X : Cx} {e : Expr} {t t' : TG} (h : PG X e t) (i : ∀ v σ H Q, t' v σ H Q → t v σ H Q) : PG X e t' := ⟨fun pins s σ H v u Q I r q => h.run pins s σ H v u Q I r (i v σ H Q q)⟩
theorem _root_.L2.PG.or {X : Cx} {e : Expr} {t t' : TG} (h : PG X e t) (h' : PG X e t') : PG X e (fun v σ H Q => t v σ H Q ∨ t' v σ H Q) := ⟨fun pins s σ H v u Q I r q => q.elim (h.run pins s σ H v u Q I r) (h'.run pins s σ H v u Q I r)⟩
theorem _root_.L2.PGs.imp {X : Cx} {e : List Expr} {t t' : TGs} (h : PGs X e t) (i : ∀ v σ H Q, t' v σ H Q → t v σ H Q) : PGs X e t' := ⟨fun pins s σ H v u Q I r q => h.run pins s σ H v u Q I r (i v σ H Q q)⟩
def gSet (i : Nat) : PyData → Ro → Option Ro := fun d ρ => some (ρ.set i (.val d))
def gsNil : List PyData → Ro → Option Ro := fun ds ρ => match ds with
  | [] => some ρ
  | _ => none
def gsCons (g : PyData → Ro → Option Ro) (gs : List PyData → Ro → Option Ro) : List PyData → Ro → Option Ro := fun ds ρ => match ds with
  | [] => none
  | d :: ds => (g d ρ).bind (gs ds)
def gUnp (gs : List PyData → Ro → Option Ro) : PyData → Ro → Option Ro := fun d ρ => match d with
  | .tuple ds => gs ds ρ
  | .list ds => gs ds ρ
  | _ => none
section
variable {X : Cx} {K : PySem.W.Frag} {pos : Pos}
theorem pf_gname (i : Nat) {x : Str} (hN : X.N.Nodup) (hi : X.N[i]? = some x) (hx : Loc X.env.scope x) (hf : X.fn x = true ∨ X.env.scope.names.lookup x = some .local := by first | exact .inl rfl | exact .inr rfl | assumption) : PG X (.Name x pos) (tTg K [i] (gSet i)) :=
  (pg_name hN hi hx hf).imp fun v σ H Q ⟨B, F0, F, ρ, d, S, r, ρ', e, h⟩ => by
    cases e
    exact h _ (S.set_val r) (WpEq.set _ _ _)
theorem pf_gnil : PGs X [] (tTgs K [] gsNil) := pgs_nil.imp fun vs σ H Q ⟨B, F0, F, ρ, ds, S, r, ρ', e, h⟩ => by
  cases r with
  | nil => cases e; exact ⟨rfl, h σ S fun vs _ => rfl⟩
  | cons a b => cases e
theorem pf_gcons {e : Expr} {es : List Expr} {is js : List Nat} {g : PyData → Ro → Option Ro} {gs : List PyData → Ro → Option Ro} (h1 : PG X e (tTg K is g)) (h2 : PGs X es (tTgs K js gs))
    (hs : (assignEach (e :: es) X.env).map (·.2) = assign e X.env :: (assignEach es X.env).map (·.2) := by rfl) : PGs X (e :: es) (tTgs K (is ++ js) (gsCons g gs)) := (pgs_cons h1 h2 hs).imp fun vs σ H Q ⟨B, F0, F, ρ, ds, S, r, ρ', e, h⟩ => by
  cases r with
  | nil => cases e
  | cons a b =>
    unfold gsCons at e
    obtain ⟨ρ1, e1, e2⟩ := Option.bind_eq_some_iff.mp e
    refine ⟨_, _, rfl, B, F0, F, ρ, _, S, a, ρ1, e1, fun σ1 S1 w1 => ?_⟩
    exact ⟨B, F0, F, ρ1, _, S1, b, ρ', e2, fun σ2 S2 w2 => h σ2 S2 (w1.trans w2)⟩
theorem gsCons_len {gs : List PyData → Ro → Option Ro} {g : PyData → Ro → Option Ro} {n : Nat} (h : ∀ ds ρ ρ', gs ds ρ = some ρ' → ds.length = n) : ∀ ds ρ ρ', gsCons g gs ds ρ = some ρ' → ds.length = n + 1 := fun ds ρ ρ' e => by
  cases ds with
  | nil => cases e
  | cons d ds =>
    obtain ⟨ρ1, e1, e2⟩ := Option.bind_eq_some_iff.mp e
    rw [List.length_cons, h ds ρ1 ρ' e2]
theorem gsNil_len : ∀ ds ρ ρ', gsNil ds ρ = some ρ' → ds.length = 0 := fun ds ρ ρ' e => by
  cases ds with
  | nil => rfl
  | cons d ds => cases e
theorem pf_gtup {es : List Expr} {k : Nat} {is : List Nat} {gs : List PyData → Ro → Option Ro} {n : Nat} (hK : X.K = K) (hc : X.calm = true) (h : PGs X es (tTgs K is gs)) (hl : ∀ ds ρ ρ', gs ds ρ = some ρ' → ds.length = n)
    (hn : (assignEach es X.env).length = n := by rfl) (hst : (assignEach es X.env).findIdx? (·.1) = none := by rfl) : PG X (.Tuple es k pos) (tTg K is (gUnp gs)) :=
  ((pg_tup hc h hn hst).or (pg_lst hc h hn hst)).imp fun v σ H Q ⟨B, F0, F, ρ, d, S, r, ρ', e, h⟩ => by
    subst hK
    cases d with
    | tuple ds =>
      obtain ⟨a, xs, rfl, hq, rr⟩ := (RpB.rp r).tuple
      exact .inl ⟨a, xs, rfl, hq, by rw [rr.length]; exact hl _ _ _ e, B, F0, F, ρ, ds, S, rr, ρ', e, h⟩
    | list ds =>
      obtain ⟨a, xs, rfl, hq, rr⟩ := (RpB.rp r).list
      exact .inr ⟨a, xs, rfl, SqL.of hq, by rw [rr.length]; exact hl _ _ _ e, B, F0, F, ρ, ds, S, rr, ρ', e, h⟩
    | _ => cases e

/-! ### comprehensions -/
def compF (g : PyData → Ro → Option Ro) (c : Ro → Res Bool) (f : Ro → Res PyData) (ρ : Ro) : List PyData → Option (List PyData)
  | [] => some []
  | d :: ds => (g d ρ).bind fun ρ1 => (c ρ1).opt.bind fun b => if b = true then (f ρ1).opt.bind fun y => (compF g c f ρ ds).map (y :: ·) else compF g c f ρ ds
def eComp (own : List Nat) (fi : Ro → Res (List PyData)) (g : PyData → Ro → Option Ro) (c : Ro → Res Bool) (f : Ro → Res PyData) : Ro → Res (List PyData) := fun ρ => (fi ρ).bind fun ds => ofO (compF g c f (wipeR ρ own) ds)
def eTrue : Ro → Res Bool := fun _ => .ok true
theorem pf_tyes {mg : Str → Option Value} {W : WX} : PTs X [] (tTs K mg W eTrue) := ⟨fun pins s σ H Q I ⟨B, F0, F, ρ, S, p⟩ => pts_nil.run pins s σ H Q I (p F H Stp.refl)⟩
theorem pf_tone {mg : Str → Option Value} {W : WX} {c : Expr} {f : Ro → Res Bool} (h : PT X c (tTs K mg W f)) : PTs X [c] (tTs K mg W f) := pts_one h
theorem opt_some {α : Type} {r : Res α} {a : α} (h : r.opt = some a) : r = .ok a := by
  cases r with
  | ok b => cases h; rfl
  | exc c k => cases h
  | bad => cases h
variable {mg : Str → Option Value} {W : WX}
theorem tLc_of {fi : Ro → Res (List PyData)} {g : PyData → Ro → Option Ro} {c : Ro → Res Bool} {f : Ro → Res PyData} {own is : List Nat} (his : ∀ i ∈ is, i ∈ own) {σ : L2.St} {H : Hp} {Q : VK} (h : tN K mg W (eComp own fi g c f) σ H Q) :
    tLc (tI K mg W true fi) (tTg K is g) (tTs K mg W0 c) (tF K mg W0 f) own σ H Q := by
  obtain ⟨B, F0, F, ρ, S, p⟩ := h
  refine ⟨B, F0, F, ρ, S, ?_⟩
  unfold eComp at p
  cases ei : fi ρ with
  | exc c k => rw [ei] at p; exact p
  | bad => rw [ei] at p; exact p
  | ok ds =>
    rw [ei] at p
    obtain ⟨zs, ez, q⟩ := PostE.ofO (r := compF g c f (wipeR ρ own) ds) p
    intro J F1 H1 st G D hD
    -- the word: the turn, what stands at D, the rest
    refine ⟨fun i m H2 => m = ds.length - i ∧ i ≤ ds.length ∧ ∃ (F2 : Rg) (acc : List V) (done : List PyData) (rest : List PyData), Stp F1 H1 F2 H2 ∧ ¬ F2 D ∧ H2 D = some (.lst acc) ∧ acc.length ≤ i ∧ Rps K F2 H2 acc done ∧
      compF g c f (wipeR ρ own) (ds.drop i) = some rest ∧ zs = done ++ rest, ⟨ds.length, by simp, Nat.zero_le _, F1, [], [], zs, Stp.lay hD, fun z => (S.stp st).trk D z hD, upd_same, Nat.le_refl _, .nil, by simpa using ez, rfl⟩, ?_⟩
    rintro i m H2 ⟨rfl, hi, F2, acc, done, rest, s2, nF, hDl, hal, ra, hrest, hz⟩
    have kp : Kept true F1 H1 F2 H2 := ⟨s2.sub, fun a _ o e => s2.keep a o e⟩
    by_cases hlt : i < ds.length
    · obtain ⟨g1, g2⟩ := G.go i ds[i] F2 H2 (by simp [hlt]) kp
      refine .inr ⟨g1, fun H' => ∃ (F3 : Rg) (acc : List V) (done : List PyData) (rest : List PyData), Stp F1 H1 F3 H' ∧ ¬ F3 D ∧ H' D = some (.lst acc) ∧ acc.length ≤ i + 1 ∧ Rps K F3 H' acc done ∧
        compF g c f (wipeR ρ own) (ds.drop (i + 1)) = some rest ∧ zs = done ++ rest, fun H' hh => ⟨ds.length - (i + 1), by omega, rfl, hlt, hh⟩, fun x H3 y => ?_⟩
      obtain ⟨F3, st3, rx⟩ := g2 x H3 y
      have S3 : Ste K B F0 F3 H3 (L2.wipe σ own) (wipeR ρ own) := ((S.stp (st.trans (s2.trans st3))).wipe own)
      rw [List.drop_eq_getElem_cons hlt] at hrest
      unfold compF at hrest
      obtain ⟨ρ1, e1, hrest⟩ := Option.bind_eq_some_iff.mp hrest
      refine ⟨B, F0, F3, wipeR ρ own, ds[i], S3, rx, ρ1, e1, fun σ2 S4 w => ⟨?_, ?_⟩⟩
      · have hw := w own his
        rw [hw]
        clear hw w S4
        have idem : ∀ (vs ws : List Nat), (∀ v ∈ vs, v ∈ ws) → L2.wipe (L2.wipe σ ws) vs = L2.wipe σ ws := by
          intro vs
          induction vs with
          | nil => intro ws _; rfl
          | cons v vs ih =>
            intro ws hv
            show (L2.wipe (L2.wipe σ ws) vs).set v none = L2.wipe σ ws
            rw [ih ws fun u hu => hv u (List.mem_cons_of_mem _ hu)]
            have hvw := hv v (List.mem_cons_self ..)
            have := wipe_set σ v none ws
            rw [if_pos hvw] at this
            have key : ∀ ws : List Nat, v ∈ ws → (L2.wipe σ ws).set v none = L2.wipe σ ws := by
              intro ws
              induction ws with
              | nil => intro h; cases h
              | cons w ws ih2 =>
                intro h
                unfold L2.wipe
                by_cases e : v = w
                · subst e; rw [List.set_set]
                · rw [List.set_comm _ _ (Ne.symm e)]
                  rcases List.mem_cons.mp h with e2 | h2
                  · exact absurd e2 e
                  · rw [ih2 h2]
            exact key ws hvw
        exact idem own own fun _ h => h
      · obtain ⟨b, eb, hrest⟩ := Option.bind_eq_some_iff.mp hrest
        refine ⟨B, F0, F3, ρ1, S4, ?_⟩
        rw [opt_some eb]
        intro F4 H4 st4
        have s24 := st3.trans st4
        have nF4 : ¬ F4 D := fun z => (s24.new D z).elim nF fun z => by have := z.1; rw [hDl] at this; cases this
        cases b with
        | false =>
          rw [if_neg (by decide)] at hrest ⊢
          exact ⟨F4, acc, done, rest, s2.trans s24, nF4, s24.keep _ _ hDl, by omega, ra.stp s24, hrest, hz⟩
        | true =>
          rw [if_pos rfl] at hrest ⊢
          obtain ⟨y, ey, hrest⟩ := Option.bind_eq_some_iff.mp hrest
          refine ⟨B, F0, F4, ρ1, S4.stp st4, ?_⟩
          rw [opt_some ey]
          intro F5 H5 v st5 ry
          have s25 := s24.trans st5
          have hD5 : H5 D = some (.lst acc) := s25.keep _ _ hDl
          refine ⟨acc, hD5, by have := G.len; rw [sizeLine_eq]; omega, ?_⟩
          cases er : compF g c f (wipeR ρ own) (ds.drop (i + 1)) with
          | none => rw [er] at hrest; cases hrest
          | some r2 =>
            rw [er] at hrest
            cases hrest
            have nF5 : ¬ F5 D := fun z => (s25.new D z).elim nF fun z => by have := z.1; rw [hDl] at this; cases this
            have fk : FK F5 H5 F5 (upd H5 D (.lst (acc ++ [v]))) := ⟨fun _ h => h, fun b hb o e => by rw [upd_ne (show b ≠ D from fun z => by rw [z] at hb; exact nF5 hb)]; exact e⟩
            have s15 := s2.trans s25
            refine ⟨F5, acc ++ [v], done ++ [y], r2, ⟨s15.sub, fun b o e => ?_, fun b hb => (s15.new b hb).imp id fun z => ⟨z.1, ?_⟩⟩, nF5, upd_same, by simp; omega, (((ra.stp s25).append (.cons ry .nil))).fk fk, rfl, by rw [hz]; simp⟩
            · rw [upd_ne (ne_of_none e hD)]; exact s15.keep b o e
            · by_cases e : b = D
              · rw [e, upd_same]; simp
              · rw [upd_ne e]; exact z.2
    · have e : i = ds.length := by omega
      subst e
      refine .inl ⟨G.stop F2 H2 kp, ?_⟩
      rw [List.drop_length] at hrest
      cases hrest
      rw [List.append_nil] at hz
      subst hz
      exact q F2 H2 _ (st.trans s2) ⟨D, acc, rfl, st.keep.free hD, nF, hDl, ra⟩
/-- [e for x in .. if ..] -/
theorem pf_lc {elt tg iter : Expr} {ifs : List Expr} {scope : Scope} {own : List (Str × Nat)} {is : List Nat} {fi : Ro → Res (List PyData)} {g : PyData → Ro → Option Ro} {c : Ro → Res Bool} {f : Ro → Res PyData} (hc : X.calm = true) (hN : X.N.Nodup) (hi : PI X tg iter (tI K mg W true fi)) (ok : BlkOk X.N X.env.scope scope own)
    (hg : ∀ (s : Shared) (H : Hp) (C : Addr) (cl : List (Str × Addr)) (fp : List Addr), PG (X.blk s H scope (compEnvC scope cl C X.env) fp) tg (tTg K is g)) (ht : ∀ (s : Shared) (H : Hp) (C : Addr) (cl : List (Str × Addr)) (fp : List Addr), PTs (X.blk s H scope (compEnvC scope cl C X.env) fp) ifs (tTs K mg W0 c))
    (he : ∀ (s : Shared) (H : Hp) (C : Addr) (cl : List (Str × Addr)) (fp : List Addr), PE (X.blk s H scope (compEnvC scope cl C X.env) fp) elt (tF K mg W0 f)) (his : ∀ i ∈ is, i ∈ own.map (·.2) := by decide) (hs : ∀ x, foldedSetIterable iter X.env x = pure x := by intro _; rfl) :
    PE X (.ListComp elt [⟨tg, iter, ifs, 0⟩] scope pos) (tN K mg W (eComp (own.map (·.2)) fi g c f)) := (pe_lc hc hN hi ok hg ht he hs).imp fun _ _ _ h => tLc_of his h
end
end Pf
/-! Pf5: statements, defs. -/
namespace Pf
open PySem PySem.Spec PyProof.Rows L2

inductive Out where
  | nx (ρ : Ro)
  | ret (d : PyData)
  | bk (ρ : Ro)
  | ct (ρ : Ro)
  | exc (c : Str) (k : Int)
  | bad
def Out.seq : Out → (Ro → Out) → Out
  | .nx ρ, f => f ρ
  | .ret d, _ => .ret d
  | .bk ρ, _ => .bk ρ
  | .ct ρ, _ => .ct ρ
  | .exc c k, _ => .exc c k
  | .bad, _ => .bad
@[simp] theorem Out.seq_nx (ρ : Ro) (f : Ro → Out) : (Out.nx ρ).seq f = f ρ := rfl
@[simp] theorem Out.seq_ret (d : PyData) (f : Ro → Out) : (Out.ret d).seq f = .ret d := rfl
@[simp] theorem Out.seq_bk (ρ : Ro) (f : Ro → Out) : (Out.bk ρ).seq f = .bk ρ := rfl
@[simp] theorem Out.seq_ct (ρ : Ro) (f : Ro → Out) : (Out.ct ρ).seq f = .ct ρ := rfl
@[simp] theorem Out.seq_exc (c : Str) (k : Int) (f : Ro → Out) : (Out.exc c k).seq f = .exc c k := rfl
@[simp] theorem Out.seq_bad (f : Ro → Out) : Out.bad.seq f = .bad := rfl
/-- from an answer on -/
def Res.out {α : Type} : Res α → (α → Out) → Out
  | .ok a, f => f a
  | .exc c k, _ => .exc c k
  | .bad, _ => .bad
@[simp] theorem Res.out_ok {α : Type} (a : α) (f : α → Out) : (Res.ok a).out f = f a := rfl
@[simp] theorem Res.out_exc {α : Type} (c : Str) (k : Int) (f : α → Out) : (Res.exc c k : Res α).out f = .exc c k := rfl
@[simp] theorem Res.out_bad {α : Type} (f : α → Out) : (Res.bad : Res α).out f = .bad := rfl

def PostS (K : PySem.W.Frag) (mg : Str → Option Value) (W : WX) (B : Hp) (F0 F : Rg) (H : Hp) (D : Ends) : Out → Prop
  | .nx ρ' => ∀ σ' F' H', Ste K B F0 F' H' σ' ρ' → FK F H F' H' → D.nx σ' H'
  | .bk ρ' => ∀ σ' F' H', Ste K B F0 F' H' σ' ρ' → FK F H F' H' → D.bk σ' H'
  | .ct ρ' => ∀ σ' F' H', Ste K B F0 F' H' σ' ρ' → FK F H F' H' → D.ct σ' H'
  | .ret d => ∀ v F' H', Stp F0 B F' H' → Rp K F' H' v d → D.rt v H'
  | .exc c k => ∀ (σ' : L2.St) (H' : Hp) (dx C : Addr), Same B H' → H' dx = some (.xd [("at", .int k)]) → mg c = some (.ref C) → W (.ref C) (some dx) σ' H'
  | .bad => False
def tS (K : PySem.W.Frag) (mg : Str → Option Value) (W : WX) (g : Ro → Out) : TS := fun D σ H =>
  ∃ (B : Hp) (F0 F : Rg) (ρ : Ro), Ste K B F0 F H σ ρ ∧ PostS K mg W B F0 F H D (g ρ)
section
variable {K : PySem.W.Frag} {mg : Str → Option Value} {W : WX} {B : Hp} {F0 F F1 : Rg} {H H1 : Hp} {D : Ends} {σ : L2.St} {ρ : Ro}
theorem PostS.fk {o : Out} (k : FK F H F1 H1) (h : PostS K mg W B F0 F H D o) : PostS K mg W B F0 F1 H1 D o := by
  cases o with
  | nx ρ' => exact fun σ' F' H' s q => h σ' F' H' s (k.trans q)
  | bk ρ' => exact fun σ' F' H' s q => h σ' F' H' s (k.trans q)
  | ct ρ' => exact fun σ' F' H' s q => h σ' F' H' s (k.trans q)
  | ret d => exact h
  | exc c k => exact h
  | bad => exact h
theorem PostE.of_out {α : Type} {P : α → Prop} {r : Res α} {f : α → Out} (S : Ste K B F0 F H σ ρ) (p : PostS K mg W B F0 F H D (r.out f)) (h : ∀ a, r = .ok a → PostS K mg W B F0 F H D (f a) → P a) : PostE mg W σ H P r := by
  cases r with
  | ok a => exact h a rfl p
  | exc c k => exact fun H' dx C s e1 e2 => p σ H' dx C (S.same.trans s) e1 e2
  | bad => exact p
theorem Ste.out {F' : Rg} {H' : Hp} (S : Ste K B F0 F H σ ρ) (s : Stp F H F' H') : Stp F0 B F' H' where
  sub := fun a h => s.sub a (S.sub a h)
  keep := S.same.trans s.keep
  new := fun a h => (s.new a h).elim (fun q => (S.reg a q).imp id fun z => ⟨z, Same.some s.keep (S.trk a q)⟩) fun q => .inr ⟨S.same.free q.1, q.2⟩
end
theorem _root_.L2.PS.imp {X : Cx} {e : Stmt} {t t' : TS} (h : PS X e t) (i : ∀ D σ H, t' D σ H → t D σ H) : PS X e t' := ⟨fun pins s σ H D I q => h.run pins s σ H D I (i D σ H q)⟩
theorem _root_.L2.PSs.imp {X : Cx} {e : List Stmt} {t t' : TS} (h : PSs X e t) (i : ∀ D σ H, t' D σ H → t D σ H) : PSs X e t' := ⟨fun pins s σ H D I q => h.run pins s σ H D I (i D σ H q)⟩

/-! ### plain functions -/
def sPass : Ro → Out := .nx
def sSeq (g h : Ro → Out) : Ro → Out := fun ρ => (g ρ).seq h
def sSet (i : Nat) (f : Ro → Res PyData) : Ro → Out := fun ρ => (f ρ).out fun d => .nx (ρ.set i (.val d))
def sSetN (i : Nat) (f : Ro → Res (List PyData)) : Ro → Out := fun ρ => (f ρ).out fun d => .nx (ρ.set i (.own d))
def oNx : Option Ro → Out
  | some ρ => .nx ρ
  | none => .bad
@[simp] theorem oNx_some (ρ : Ro) : oNx (some ρ) = .nx ρ := rfl
@[simp] theorem oNx_none : oNx none = .bad := rfl
def sAsg (g : PyData → Ro → Option Ro) (f : Ro → Res PyData) : Ro → Out := fun ρ => (f ρ).out fun d => oNx (g d ρ)
def sPar (i j : Nat) (fs : Ro → Res (List PyData)) : Ro → Out := fun ρ => (fs ρ).out fun ds => match ds with
  | [d, e] => .nx ((ρ.set i (.val d)).set j (.val e))
  | _ => .bad
def sPar3 (i j l : Nat) (fs : Ro → Res (List PyData)) : Ro → Out := fun ρ => (fs ρ).out fun ds => match ds with
  | [d, e, u] => .nx (((ρ.set i (.val d)).set j (.val e)).set l (.val u))
  | _ => .bad
def sExpr (f : Ro → Res PyData) : Ro → Out := fun ρ => (f ρ).out fun _ => .nx ρ
def sApp (i : Nat) (f : Ro → Res PyData) : Ro → Out := fun ρ => match ρ[i]? with
  | some (.own ds) => (f ρ).out fun d => if ds.length < 16777216 then .nx (ρ.set i (.own (ds ++ [d]))) else .bad
  | _ => .bad
def sPut (i : Nat) (fi f : Ro → Res PyData) : Ro → Out := fun ρ => match ρ[i]? with
  | some (.own ds) => (f ρ).out fun d => (fi ρ).out fun x => (match x with
    | .int k => (match ixN ds.length k with
      | some j => .nx (ρ.set i (.own (ds.set j d)))
      | none => .bad)
    | _ => .bad)
  | _ => .bad
def sRet (f : Ro → Res PyData) : Ro → Out := fun ρ => (f ρ).out .ret
def sRetN : Ro → Out := fun _ => .ret .none
def sIf (c : Ro → Res Bool) (g h : Ro → Out) : Ro → Out := fun ρ => (c ρ).out fun b => if b = true then g ρ else h ρ
def sFrz (is : List Nat) (g : Ro → Out) : Ro → Out := fun ρ => g (frz is ρ)
def forF (g : PyData → Ro → Option Ro) (b : Ro → Out) : List PyData → Ro → Out
  | [], ρ => .nx ρ
  | d :: ds, ρ => (oNx (g d ρ)).seq fun ρ1 => match b ρ1 with
    | .nx ρ2 => forF g b ds ρ2
    | .ct ρ2 => forF g b ds ρ2
    | .bk ρ2 => .nx ρ2
    | o => o
def sFor (fi : Ro → Res (List PyData)) (g : PyData → Ro → Option Ro) (b : Ro → Out) : Ro → Out := fun ρ => (fi ρ).out fun ds => forF g b ds ρ
def whF (c : Ro → Res Bool) (b : Ro → Out) : Nat → Ro → Out
  | 0, _ => .bad
  | n + 1, ρ => (c ρ).out fun k => if k = true then (match b ρ with
    | .nx ρ2 => whF c b n ρ2
    | .ct ρ2 => whF c b n ρ2
    | .bk ρ2 => .nx ρ2
    | o => o) else .nx ρ
def sWhile (n : Nat) (c : Ro → Res Bool) (b : Ro → Out) : Ro → Out := whF c b n
def sRaise (c : Str) (f : Ro → Res PyData) : Ro → Out := fun ρ => (f ρ).out fun d => match d with
  | .int k => .exc c k
  | _ => .bad
/-- handlers: the class's name, what is handed back -/
def hdl : List (Str × (Int → PyData)) → Str → Int → Out
  | [], c, k => .exc c k
  | (x, h) :: r, c, k => if c = x then .ret (h k) else hdl r c k
def sTry (g : Ro → Out) (hs : List (Str × (Int → PyData))) : Ro → Out := fun ρ => match g ρ with
  | .exc c k => hdl hs c k
  | o => o
def outR : Out → Res PyData
  | .nx _ => .ok .none
  | .ret d => .ok d
  | .exc c k => .exc c k
  | _ => .bad
@[simp] theorem outR_nx (ρ : Ro) : outR (.nx ρ) = .ok .none := rfl
@[simp] theorem outR_ret (d : PyData) : outR (.ret d) = .ok d := rfl
@[simp] theorem outR_exc (c : Str) (k : Int) : outR (.exc c k) = .exc c k := rfl
@[simp] theorem outR_bad : outR .bad = .bad := rfl
/-- a def of n parameters and j further names -/
def mDef (n j : Nat) (g : Ro → Out) : List PyData → Res PyData := fun ds => if ds.length = n then outR (g (ds.map .val ++ List.replicate j .un)) else .bad

section
variable {X : Cx} {K : PySem.W.Frag} {mg : Str → Option Value} {W : WX} {pos : Pos}
theorem ps_nil : PSs X [] (tS K mg W sPass) := pss_nil.imp fun D σ H ⟨B, F0, F, ρ, S, p⟩ => p σ F H S FK.refl
theorem ps_seq {st : Stmt} {rest : List Stmt} {g h : Ro → Out} (h1 : PS X st (tS K mg W g)) (h2 : PSs X rest (tS K mg W h)) : PSs X (st :: rest) (tS K mg W (sSeq g h)) :=
  (pss_cons h1 h2).imp fun D σ H ⟨B, F0, F, ρ, S, p⟩ => by
    refine ⟨B, F0, F, ρ, S, ?_⟩
    unfold sSeq at p
    cases e : g ρ with
    | nx ρ' => rw [e] at p; exact fun σ' F' H' S' k => ⟨B, F0, F', ρ', S', p.fk k⟩
    | ret d => rw [e] at p; exact p
    | bk ρ' => rw [e] at p; exact p
    | ct ρ' => rw [e] at p; exact p
    | exc c k => rw [e] at p; exact p
    | bad => rw [e] at p; exact p
theorem ps_1 {st : Stmt} {g : Ro → Out} (h1 : PS X st (tS K mg W g)) : PSs X [st] (tS K mg W g) := pss_one h1
theorem pq_pass : PS X (.Pass pos) (tS K mg W sPass) := ps_pass.imp fun D σ H ⟨B, F0, F, ρ, S, p⟩ => p σ F H S FK.refl
theorem pq_break : PS X (.Break pos) (tS K mg W .bk) := ps_break.imp fun D σ H ⟨B, F0, F, ρ, S, p⟩ => p σ F H S FK.refl
theorem pq_continue : PS X (.Continue pos) (tS K mg W .ct) := ps_continue.imp fun D σ H ⟨B, F0, F, ρ, S, p⟩ => p σ F H S FK.refl
theorem pq_set {i : Nat} {x : Str} {e : Expr} {f : Ro → Res PyData} {pos' : Pos} (hN : X.N.Nodup) (hi : X.N[i]? = some x) (hx : Loc X.env.scope x) (he : PE X e (tF K mg W f)) (hs : swapsWith e (some (.Name x pos')) pos.line X.env = pure false := by rfl) (hf : X.fn x = true ∨ X.env.scope.names.lookup x = some .local := by first | exact .inl rfl | exact .inr rfl | assumption) :
    PS X (.Assign [.Name x pos'] e pos) (tS K mg W (sSet i f)) := (ps_set hN hi hx he hs hf).imp fun D σ H ⟨B, F0, F, ρ, S, p⟩ =>
  ⟨B, F0, F, ρ, S, PostE.of_out S p fun d _ q F' H' v st r => q _ F' H' ((S.stp st).set_val r) st.fk⟩
theorem set_own_of {i : Nat} {B : Hp} {F0 F F' : Rg} {H H' : Hp} {σ : L2.St} {ρ : Ro} {a : Addr} {xs : List V} {ds : List PyData} (S : Ste K B F0 F H σ ρ) (st : Stp F H F' H') (hn : H a = none) (nf : ¬ F' a) (ha : H' a = some (.lst xs)) (r : Rps K F' H' xs ds) : Ste K B F0 F' H' (σ.set i (some (.ref a))) (ρ.set i (.own ds)) :=
  (S.stp st).set_own nf (S.same.free hn) ha r fun j es _ e z => by
    obtain ⟨b, ys, h1, _, _, h4, _⟩ := S.own j es e
    rw [h1] at z
    cases z
    rw [hn] at h4
    cases h4
theorem pq_setN {i : Nat} {x : Str} {e : Expr} {f : Ro → Res (List PyData)} {pos' : Pos} (hN : X.N.Nodup) (hi : X.N[i]? = some x) (hx : Loc X.env.scope x) (he : PE X e (tN K mg W f)) (hs : swapsWith e (some (.Name x pos')) pos.line X.env = pure false := by rfl) (hf : X.fn x = true ∨ X.env.scope.names.lookup x = some .local := by first | exact .inl rfl | exact .inr rfl | assumption) :
    PS X (.Assign [.Name x pos'] e pos) (tS K mg W (sSetN i f)) := (ps_set hN hi hx he hs hf).imp fun D σ H ⟨B, F0, F, ρ, S, p⟩ =>
  ⟨B, F0, F, ρ, S, PostE.of_out S p fun ds _ q F' H' v st ⟨a, xs, ev, hn, nf, ha, r⟩ => by subst ev; exact q _ F' H' (set_own_of S st hn nf ha r) st.fk⟩
/-- y = [..] on one line, the name a local -/
theorem pq_setLc {own : Bool} {i : Nat} {y : Str} {py : Pos} {elt tg iter : Expr} {ifs : List Expr} {scope : Scope} {ow : List (Str × Nat)} {is : List Nat} {spos : Pos} {fi : Ro → Res (List PyData)} {g : PyData → Ro → Option Ro} {c : Ro → Res Bool} {f : Ro → Res PyData} (hc : X.calm = true) (hN : X.N.Nodup) (hy : X.N[i]? = some y) (hyl : X.env.scope.names.lookup y = some .local)
    (hsw : swapsWith (.ListComp elt [⟨tg, iter, ifs, 0⟩] scope pos) (some (.Name y py)) spos.line X.env = pure true) (hi : PI X tg iter (tI K mg W true fi)) (ok : BlkOk X.N X.env.scope scope ow)
    (hg : ∀ (s : Shared) (H : Hp) (C : Addr) (cl : List (Str × Addr)) (fp : List Addr), PG (X.blk s H scope (compEnvC scope cl C X.env) fp) tg (tTg K is g)) (ht : ∀ (s : Shared) (H : Hp) (C : Addr) (cl : List (Str × Addr)) (fp : List Addr), PTs (X.blk s H scope (compEnvC scope cl C X.env) fp) ifs (tTs K mg W0 c))
    (he : ∀ (s : Shared) (H : Hp) (C : Addr) (cl : List (Str × Addr)) (fp : List Addr), PE (X.blk s H scope (compEnvC scope cl C X.env) fp) elt (tF K mg W0 f)) (his : ∀ i ∈ is, i ∈ ow.map (·.2) := by decide) (hs : ∀ x, foldedSetIterable iter X.env x = pure x := by intro _; rfl) :
    PS X (.Assign [.Name y py] (.ListComp elt [⟨tg, iter, ifs, 0⟩] scope pos) spos) (tS K mg W (if own = true then sSetN i (eComp (ow.map (·.2)) fi g c f) else sSet i (e1 listD (eComp (ow.map (·.2)) fi g c f)))) :=
  (ps_setLc hc hN hy hyl hsw hi ok hg ht he hs).imp fun D σ H ⟨B, F0, F, ρ, S, p⟩ => by
    refine tLc_of his ⟨B, F0, F, ρ, S, ?_⟩
    cases own with
    | true => exact PostE.of_out S p fun ds _ q F' H' v st ⟨a, xs, ev, hn, nf, ha, r⟩ => by subst ev; exact q _ F' H' (set_own_of S st hn nf ha r) st.fk
    | false =>
      have p2 : PostS K mg W B F0 F H D ((eComp (ow.map (·.2)) fi g c f ρ).out fun ds => .nx (ρ.set i (.val (.list ds)))) := by
        rw [if_neg (by decide)] at p
        unfold sSet e1 at p
        cases e : eComp (ow.map (·.2)) fi g c f ρ with
        | _ => rw [e] at p; exact p
      refine PostE.of_out S p2 fun ds _ q F' H' v st ⟨a, xs, ev, hn, nf, ha, r⟩ => ?_
      subst ev
      have s2 : Stp F H (fun b => F' b ∨ b = a) H' := ⟨fun b h => .inl (st.sub b h), st.keep, fun b h => h.elim (fun z => st.new b z) fun z => .inr (by rw [z]; exact ⟨hn, by rw [ha]; simp⟩)⟩
      exact q _ _ H' ((S.stp s2).set_val (.lst (.inr rfl) ha (r.fk ⟨fun _ h => .inl h, fun _ _ _ h => h⟩))) s2.fk
theorem pq_asg {tg e : Expr} {is : List Nat} {g : PyData → Ro → Option Ro} {f : Ro → Res PyData} (he : PE X e (tF K mg W f)) (hg : PG X tg (tTg K is g)) (hs : swapsWithSole [tg] e pos.line X.env = pure false := by rfl) (hw : swappedStores [tg] e X.env = pure none := by rfl)
    (h1 : (assignEach [tg] X.env).map (·.2) = [assign tg X.env] := by rfl) : PS X (.Assign [tg] e pos) (tS K mg W (sAsg g f)) := (ps_asg he hg hs hw h1).imp fun D σ H ⟨B, F0, F, ρ, S, p⟩ => by
  refine ⟨B, F0, F, ρ, S, PostE.of_out S p fun d _ q F' H' v st r => ?_⟩
  cases e : g d ρ with
  | none => rw [e] at q; exact q.elim
  | some ρ' => rw [e] at q; exact ⟨B, F0, F', ρ, d, S.stp st, r, ρ', e, fun σ' S' _ => q σ' F' H' S' st.fk⟩
theorem pq_par {i j : Nat} {x y : Str} {a b : Expr} {fs : Ro → Res (List PyData)} {px py pt : Pos} {kt k2 pt2} (hc : X.calm = true) (hN : X.N.Nodup) (hi : X.N[i]? = some x) (hj : X.N[j]? = some y) (hij : i ≠ j)
    (hx : X.env.scope.names.lookup x = some .local) (hy : X.env.scope.names.lookup y = some .local) (ha : PA X [a, b] (tAs K mg W fs))
    (hw : swappedStores [.Tuple [.Name x px, .Name y py] kt pt] (.Tuple [a, b] k2 pt2) X.env = pure (some [x, y]) := by rfl)
    (hs : swapsWithSole [.Tuple [.Name x px, .Name y py] kt pt] (.Tuple [a, b] k2 pt2) pos.line X.env = pure false := by rfl) :
    PS X (.Assign [.Tuple [.Name x px, .Name y py] kt pt] (.Tuple [a, b] k2 pt2) pos) (tS K mg W (sPar i j fs)) := (ps_par hc hN hi hj hij hx hy ha hw hs).imp fun D σ H ⟨B, F0, F, ρ, S, p⟩ => by
  refine ⟨B, F0, F, ρ, S, PostE.of_out S p fun ds _ q F' H' vs st r => ?_⟩
  match ds, q with
  | [d, e], q =>
    cases r with
    | cons r1 r =>
      cases r with
      | cons r2 r =>
        cases r
        exact ⟨_, _, rfl, q _ F' H' (((S.stp st).set_val r1).set_val r2) st.fk⟩
  | [], q => exact q.elim
  | [_], q => exact q.elim
  | _ :: _ :: _ :: _, q => exact q.elim
theorem pq_expr {e : Expr} {f : Ro → Res PyData} (he : PE X e (tB K mg W f)) (hs : swapsWith e none pos.line X.env = pure false := by rfl) : PS X (.Expr e pos) (tS K mg W (sExpr f)) := (ps_expr he hs).imp fun D σ H ⟨B, F0, F, ρ, S, p⟩ =>
  ⟨B, F0, F, ρ, S, PostE.of_out S p fun d _ q F' H' v st r => q σ F' H' (S.stp st) st.fk⟩
/-- xs.append(e), xs one's own -/
theorem pq_app {i : Nat} {x : Str} {e : Expr} {f : Ro → Res PyData} {p1 p2 p3 : Pos} (hN : X.N[i]? = some x) (hv : Vis X.env.scope x) (he : PE X e (tF K mg W f))
    (hE : ∀ {to : TE} {t : TA}, PE X (.Name x p1) to → PA X [e] t → PE X (.Call (.Attribute (.Name x p1) "append" p2) [e] [] p3) (tBM X.K "list" rAppend to t)) (hs : swapsWith (.Call (.Attribute (.Name x p1) "append" p2) [e] [] p3) none pos.line X.env = pure false := by rfl)
    (hd : (x == ("__debug__" : Str)) = false := by decide) (hcd : (x == ("__classdict__" : Str)) = false := by decide) (hst : starEach [e] X.env = (false, eval e X.env) :: starEach [] X.env := by rfl) :
    PS X (.Expr (.Call (.Attribute (.Name x p1) "append" p2) [e] [] p3) pos) (tS K mg W (sApp i f)) :=
  (ps_expr (hE (pe_var hN hv hd hcd) (pa_cons he pa_nil hst)) hs).imp fun D σ H ⟨B, F0, F, ρ, S, p⟩ => by
    unfold sApp at p
    split at p
    · rename_i ds ei
      obtain ⟨a, xs, h1, h2, h3, h4, h5⟩ := S.own i ds ei
      refine ⟨_, h1, .inl ⟨rfl, xs, SqL.of h4⟩, B, F0, F, ρ, S, PostE.of_out S p fun d _ q F' H' v st r => ?_⟩
      have h4' := st.keep _ _ h4
      split at q
      · rename_i hl
        have S' := S.stp st
        obtain ⟨W1, k1⟩ := S'.write (ys := xs ++ [v]) (es := ds ++ [d]) ei h1 ((h5.stp st).append (.cons r .nil))
        exact ⟨a, xs, v, rfl, rfl, h4', by rw [h5.length, sizeLine_eq]; exact hl, q σ F' _ W1 (st.fk.trans k1)⟩
      · exact q.elim
    · exact p.elim
/-- xs[e] = e2, xs one's own -/
theorem pq_put {i : Nat} {x : Str} {e1 e : Expr} {fi f : Ro → Res PyData} {p1 p2 : Pos} (hN : X.N[i]? = some x) (hv : Vis X.env.scope x) (hi : PE X e1 (tB K mg W fi)) (he : PE X e (tF K mg W f))
    (hE : ∀ {to ti : TE}, PE X (.Name x p1) to → PE X e1 ti → PG X (.Subscript (.Name x p1) e1 p2) (gSub to ti rSetL)) (hs : swapsWithSole [.Subscript (.Name x p1) e1 p2] e pos.line X.env = pure false := by rfl) (hw : swappedStores [.Subscript (.Name x p1) e1 p2] e X.env = pure none := by rfl)
    (hd : (x == ("__debug__" : Str)) = false := by decide) (hcd : (x == ("__classdict__" : Str)) = false := by decide) (h1 : (assignEach [Expr.Subscript (.Name x p1) e1 p2] X.env).map (·.2) = [assign (.Subscript (.Name x p1) e1 p2) X.env] := by rfl) :
    PS X (.Assign [.Subscript (.Name x p1) e1 p2] e pos) (tS K mg W (sPut i fi f)) :=
  (ps_asg he (hE (pe_var hN hv hd hcd) hi) hs hw h1).imp fun D σ H ⟨B, F0, F, ρ, S, p⟩ => by
    unfold sPut at p
    split at p
    · rename_i ds ei
      obtain ⟨a, xs, h1, h2, h3, h4, h5⟩ := S.own i ds ei
      refine ⟨B, F0, F, ρ, S, PostE.of_out S p fun d _ q F' H' v st r => ?_⟩
      refine ⟨_, h1, B, F0, F', ρ, S.stp st, PostE.of_out (S.stp st) (q.fk st.fk) fun z _ q F2 H2 w st2 rz => ?_⟩
      have s12 := st.trans st2
      have h4' := s12.keep _ _ h4
      cases z with
      | int k =>
        have q : PostS K mg W B F0 F' H' D (match ixN ds.length k with | some j => Out.nx (ρ.set i (.own (ds.set j d))) | none => .bad) := q
        cases ej : ixN ds.length k with
        | none => rw [ej] at q; exact q.elim
        | some j =>
          rw [ej] at q
          obtain ⟨W1, k1⟩ := (S.stp s12).write (ys := xs.set j v) (es := ds.set j d) ei h1 ((h5.stp s12).set j (r.stp st2))
          exact ⟨a, xs, k, j, rfl, rz.int', h4', by rw [h5.length]; exact ej, q σ F2 _ W1 (st2.fk.trans k1)⟩
      | _ => exact q.elim
    · exact p.elim
theorem pq_ret {e : Expr} {f : Ro → Res PyData} (he : PE X e (tF K mg W f)) : PS X (.Return (some e) pos) (tS K mg W (sRet f)) := (ps_ret he).imp fun D σ H ⟨B, F0, F, ρ, S, p⟩ =>
  ⟨B, F0, F, ρ, S, PostE.of_out S p fun d _ q F' H' v st r => q v F' H' (S.out st) r⟩
theorem pq_retN : PS X (.Return none pos) (tS K mg W sRetN) := ps_retN.imp fun D σ H ⟨B, F0, F, ρ, S, p⟩ => p .non F H (S.out Stp.refl) .non
theorem pq_if {c : Expr} {a b : List Stmt} {t : Ro → Res Bool} {g h : Ro → Out} (hc : PT X c (tTs K mg W t)) (ha : PSs X a (tS K mg W g)) (hb : PSs X b (tS K mg W h)) : PS X (.If c a b pos) (tS K mg W (sIf t g h)) := (ps_if hc ha hb).imp fun D σ H ⟨B, F0, F, ρ, S, p⟩ => by
  refine ⟨B, F0, F, ρ, S, PostE.of_out S p fun k _ q F' H' st => ?_⟩
  cases k with
  | true => rw [if_pos rfl] at q ⊢; exact ⟨B, F0, F', ρ, S.stp st, q.fk st.fk⟩
  | false => rw [if_neg (by decide)] at q ⊢; exact ⟨B, F0, F', ρ, S.stp st, q.fk st.fk⟩
theorem pq_frz (is : List Nat) {st : Stmt} {g : Ro → Out} (h : PS X st (tS K mg W g)) : PS X st (tS K mg W (sFrz is g)) := h.imp fun D σ H ⟨B, F0, F, ρ, S, p⟩ => by
  obtain ⟨F', S', k⟩ := Ste.frz is S
  exact ⟨B, F0, F', frz is ρ, S', p.fk k⟩
theorem pq_for {tg iter : Expr} {body : List Stmt} {is : List Nat} {fi : Ro → Res (List PyData)} {g : PyData → Ro → Option Ro} {b : Ro → Out} (hp : PassesOwn (model X.prog X.w) X.A X.env X.xe) (hc : X.calm = true) (hi : PI X tg iter (tI K mg W false fi)) (hg : PG X tg (tTg K is g)) (hb : PSs X body (tS K mg W b))
    (hs : ∀ x, foldedSetIterable iter X.env x = pure x := by intro _; rfl) : PS X (.For tg iter body [] pos) (tS K mg W (sFor fi g b)) := (ps_for hp hc hi hg hb hs).imp fun D σ H ⟨B, F0, F, ρ, S, p⟩ => by
  refine ⟨B, F0, F, ρ, S, PostE.of_out S p fun ds _ q J F1 H1 st G => ?_⟩
  refine ⟨fun i m σ2 H2 => m = ds.length - i ∧ i ≤ ds.length ∧ ∃ (F2 : Rg) (ρ2 : Ro), Ste K B F0 F2 H2 σ2 ρ2 ∧ FK F1 H1 F2 H2 ∧ PostS K mg W B F0 F2 H2 D (forF g b (ds.drop i) ρ2), ⟨ds.length, by simp, Nat.zero_le _, F1, ρ, S.stp st, FK.refl, by simpa using q.fk st.fk⟩, ?_⟩
  rintro i m σ2 H2 ⟨rfl, hi, F2, ρ2, S2, k2, p2⟩
  have kp : Kept false F1 H1 F2 H2 := ⟨k2.sub, fun a h o e => k2.keep a (h.elim (fun z => nomatch z) id) o e⟩
  by_cases hlt : i < ds.length
  · obtain ⟨g1, g2⟩ := G.go i ds[i] F2 H2 (by simp [hlt]) kp
    refine .inr ⟨g1, fun σ3 H3 => ∃ (F3 : Rg) (ρ3 : Ro), Ste K B F0 F3 H3 σ3 ρ3 ∧ FK F1 H1 F3 H3 ∧ PostS K mg W B F0 F3 H3 D (forF g b (ds.drop (i + 1)) ρ3), fun σ' H' hh => ⟨ds.length - (i + 1), by omega, rfl, hlt, hh⟩, fun x H3 y => ?_⟩
    obtain ⟨F3, st3, rx⟩ := g2 x H3 y
    rw [List.drop_eq_getElem_cons hlt] at p2
    unfold forF at p2
    have p2 := p2.fk st3.fk
    cases eg : g ds[i] ρ2 with
    | none => rw [eg] at p2; exact p2.elim
    | some ρ3 =>
      rw [eg] at p2
      have p3 : PostS K mg W B F0 F3 H3 D (match b ρ3 with | .nx ρ2 => forF g b (ds.drop (i + 1)) ρ2 | .ct ρ2 => forF g b (ds.drop (i + 1)) ρ2 | .bk ρ2 => .nx ρ2 | o => o) := p2
      refine ⟨B, F0, F3, ρ2, ds[i], S2.stp st3, rx, ρ3, eg, fun σ4 S4 _ => ⟨B, F0, F3, ρ3, S4, ?_⟩⟩
      have kk := k2.trans st3.fk
      cases eb : b ρ3 with
      | nx ρ4 => rw [eb] at p3; exact fun σ' F' H' S' k => ⟨F', ρ4, S', kk.trans k, p3.fk k⟩
      | ct ρ4 => rw [eb] at p3; exact fun σ' F' H' S' k => ⟨F', ρ4, S', kk.trans k, p3.fk k⟩
      | bk ρ4 => rw [eb] at p3; exact p3
      | ret d => rw [eb] at p3; exact p3
      | exc c k => rw [eb] at p3; exact p3
      | bad => rw [eb] at p3; exact p3
  · have e : i = ds.length := by omega
    subst e
    rw [List.drop_length] at p2
    exact .inl ⟨G.stop F2 H2 kp, p2 σ2 F2 H2 S2 FK.refl⟩
theorem pq_while (n : Nat) {c : Expr} {body : List Stmt} {t : Ro → Res Bool} {b : Ro → Out} (hp : PassesOwn (model X.prog X.w) X.A X.env X.xe) (hc : PT X c (tTs K mg W t)) (hb : PSs X body (tS K mg W b)) : PS X (.While c body [] pos) (tS K mg W (sWhile n t b)) := (ps_while hp hc hb).imp fun D σ H ⟨B, F0, F, ρ, S, p⟩ => by
  refine ⟨fun m σ2 H2 => ∃ (F2 : Rg) (ρ2 : Ro), Ste K B F0 F2 H2 σ2 ρ2 ∧ PostS K mg W B F0 F2 H2 D (whF t b m ρ2) ∧ FK F H F2 H2, ⟨n, F, ρ, S, p, FK.refl⟩, ?_⟩
  rintro m σ2 H2 ⟨F2, ρ2, S2, p2, k2⟩
  cases m with
  | zero => exact p2.elim
  | succ m =>
    unfold whF at p2
    refine ⟨B, F0, F2, ρ2, S2, PostE.of_out S2 p2 fun k _ q F3 H3 st => ?_⟩
    cases k with
    | false => rw [if_neg (by decide)] at q ⊢; exact q σ2 F3 H3 (S2.stp st) st.fk
    | true =>
      rw [if_pos rfl] at q ⊢
      refine ⟨fun σ' H' => ∃ (F' : Rg) (ρ' : Ro), Ste K B F0 F' H' σ' ρ' ∧ PostS K mg W B F0 F' H' D (whF t b m ρ') ∧ FK F H F' H', fun σ' H' hh => ⟨m, Nat.lt_succ_self m, hh⟩, B, F0, F3, ρ2, S2.stp st, ?_⟩
      have q := q.fk st.fk
      have kk := k2.trans st.fk
      cases eb : b ρ2 with
      | nx ρ4 => rw [eb] at q; exact fun σ' F' H' S' k => ⟨F', ρ4, S', PostS.fk k q, kk.trans k⟩
      | ct ρ4 => rw [eb] at q; exact fun σ' F' H' S' k => ⟨F', ρ4, S', PostS.fk k q, kk.trans k⟩
      | bk ρ4 => rw [eb] at q; exact q
      | ret d => rw [eb] at q; exact q
      | exc c k => rw [eb] at q; exact q
      | bad => rw [eb] at q; exact q
end

/-! ### a def -/
section
variable {P : Program} {w : World} {K : PySem.W.Frag} {mg : Str → Option Value} {base : Heap}
theorem start_ste {N ps : List Str} {vs : List V} {ds : List PyData} {F : Rg} {H : Hp} (hl : vs.length = ps.length) (hN : ps.length ≤ N.length) (ht : ∀ a, F a → H a ≠ none) (r : Rps K F H vs ds) : Ste K H F F H (L2.start N vs) (ds.map .val ++ List.replicate (N.length - ps.length) .un) where
  same := Same.refl H
  reg := fun a h => .inl h
  sub := fun a h => h
  trk := ht
  len := by
    unfold L2.start
    simp only [List.length_append, List.length_map, List.length_replicate]
    rw [← r.length, hl]
  val := fun i d e => by
    by_cases hi : i < ds.length
    · rw [List.getElem?_append_left (by simpa using hi), List.getElem?_map] at e
      cases e2 : ds[i]? with
      | none => rw [e2] at e; cases e
      | some d2 =>
        rw [e2] at e
        cases e
        obtain ⟨v, h1, h2⟩ := r.get e2
        refine ⟨v, ?_, h2⟩
        unfold L2.start
        rw [List.getElem?_append_left (by rw [List.length_map, r.length]; exact hi), List.getElem?_map, h1]
        rfl
    · rw [List.getElem?_append_right (by simpa using hi), List.getElem?_replicate] at e
      split at e <;> cases e
  own := fun i es e => by
    by_cases hi : i < ds.length
    · rw [List.getElem?_append_left (by simpa using hi), List.getElem?_map] at e
      cases e2 : ds[i]? with
      | none => rw [e2] at e; cases e
      | some d2 => rw [e2] at e; cases e
    · rw [List.getElem?_append_right (by simpa using hi), List.getElem?_replicate] at e
      split at e <;> cases e
  sep := fun i j es es' a _ e => by
    by_cases hi : i < ds.length
    · rw [List.getElem?_append_left (by simpa using hi), List.getElem?_map] at e
      cases e2 : ds[i]? with
      | none => rw [e2] at e; cases e
      | some d2 => rw [e2] at e; cases e
    · rw [List.getElem?_append_right (by simpa using hi), List.getElem?_replicate] at e
      split at e <;> cases e
/-- THE RULE of a def: its body as a plain function of the slots -/
theorem fn_ok {x : Str} {st : Stmt} {f : Addr} {fd : FuncData} {N ps : List Str} {n j k : Nat} {g : Ro → Out} (Fu : Fun K x x st f fd) (S : FnScope N ps (defScope st)) (hn : ps.length = n) (hj : N.length - ps.length = j) (hle : ps.length ≤ N.length)
    (hbody : ∀ (cdv : Value) (A : Around) (outer : List Env) (s : Shared) (H : Hp) (E : XK), Room k (A.deeper (envOfC x (defScope st) s.heap.objs.size f cdv)) →
      PSs (cxOf (L2.CX P w) P w K mg base N x (defScope st) f cdv A outer s H E) (defBody st) (tS K mg (fun cls d _ H' => E cls d H') g)) : FnOk P w K mg base (L2.CX P w) (k + 1) f fd ps (spOf K mg n (mDef n j g)) := by
  refine Fu.okX S (fun vs H Q E h => h.1.trans hn.symm) fun cdv A outer s H vs Q E hr hsp => ?_
  refine ⟨_, hbody cdv A outer s H E hr, ?_⟩
  obtain ⟨hl, F, ds, ht, r, p⟩ := hsp
  have hl2 : vs.length = ps.length := hl.trans hn.symm
  refine ⟨H, F, F, _, start_ste hl2 hle ht r, ?_⟩
  rw [hj]
  unfold mDef at p
  rw [if_pos (by rw [← r.length]; exact hl)] at p
  cases eg : g (ds.map .val ++ List.replicate j .un) with
  | nx ρ' => rw [eg] at p; exact fun σ' F' H' S' k => p F' H' .non ⟨S'.sub, S'.same, fun a h => (S'.reg a h).imp id fun z => ⟨z, S'.trk a h⟩⟩ .non
  | ret d => rw [eg] at p; exact fun v F' H' s r => p F' H' v s r
  | bk ρ' => rw [eg] at p; exact p.elim
  | ct ρ' => rw [eg] at p; exact p.elim
  | exc c k => rw [eg] at p; exact fun σ' H' dx C s e1 e2 => p H' dx C s e1 e2
  | bad => rw [eg] at p; exact p.elim
end
end Pf
/-! Pf6: the program's errors: a class over ValueError whose __init__ says super().__init__(at); self.at = at. -/
namespace Pf
open PySem PySem.Spec PyProof.Rows L2

section
open PySem.W
variable {prog : Program} {w : World} {A : Around} {E : Value → Shared → Prop} {h : Heap} {g : Array GenState} {d : Drawn} {t : Nat} {os : OsState}
variable {nm q : Str} {C N : Addr} {bs bm : List Value} {hdct : Bool} {sn : List Str} {sub : List Value} {ab : Bool} {col : Option Bool} {dd : Option Addr} {k0 k1 k2 k3 k5 : Option Value}
theorem call_mwVE {u e t0 : Addr} {rest : List Value} {Q : Value → Shared → Prop}
    (hC : h.get? C = some (excClassObj nm q C N bs bm hdct sn sub ab col dd k0 k1 k2 k3 k5 "ValueError.__new__")) (he : h.get? e = some (HandSPX.excO C t0)) (hu : h.get? u = some (kxs_mw "ValueError.__init__" e)) (hrest : rest.length ≤ sizeLine)
    (hq : ∀ h' t1, (∀ b o, b ≠ e → h.get? b = some o → h'.get? b = some o) → h'.get? e = some (HandSPX.excO C t1) → Q .none ⟨h', g, d, t, os⟩) :
    wpAny (model prog w) A (call (.ref u) rest) Q E ⟨h, g, d, t, os⟩ := by
  refine wpAny_call (codeAny_of_tree ?_)
  show wpAny _ A.in1 (callAny (.ref u) ⟨rest, []⟩) _ _ _
  simp only [callAny]
  refine wpAny_bind (wpAny_load hu ?_)
  simp only [kxs_mw, show (Value.type "method-wrapper" == Value.type "method" || Value.type "method-wrapper" == Value.type "builtin_function_or_method" || Value.type "method-wrapper" == Value.type "method-wrapper") = true by decide, if_true]
  refine KFB.if_so (by decide) ?_
  refine wpAny_bind (check_bound_init F.excBase_ValueError.toExcCallFacts hC he rfl ?_)
  refine wpAny_bind (wpAny_pure (wpAny_pure ?_))
  refine ⟨Code.quiet_builtin _ (by decide +kernel), codeAny_builtin F.excBase_ValueError.initEntry ?_⟩
  rw [Around.under_plainId F.excBase_ValueError.init.plain _]
  wp_walk
  refine hq _ h.objs.size (fun b o hb ho => ?_) ?_
  · rw [Heap.get?_update_other _ _ (Ne.symm hb)]
    exact Heap.get?_push_of_some _ ho
  · rw [Heap.get?_update_self _ (Heap.get?_push_of_some _ he) rfl]
    rfl
end

/-- what the written part says of the class D with the __init__ at f (its cell at cc) -/
structure InitF (P : Program) (K : PySem.W.Frag) (mg : Str → Option Value) (qual : Str) (st : Stmt) (f : Addr) (fd : FuncData) (D cc : Addr) : Prop where
  ex : ∃ (oc : Value) (od : Option Addr) (kV doc pm : Value) (an : Option Addr) (cda : Addr) (ct : Value) (osl : Array (Option Value)) (ccl : Value) (cdd : Option Addr) (vs : Array Value) (ccs : Array (Option Value)) (file : Str) (tf : Tok),
    fd = PySem.W.ksFn "__init__" qual (defArgs st) (defBody st) (defScope st) .none kV doc pm an (.ref cda) ct cc ∧ K.lookup f = some ⟨oc, od, .func fd, osl⟩ ∧ PySem.W.codeIn K (.ref cda) qual = true ∧
      K.lookup cda = some ⟨ccl, cdd, .fields vs, ccs⟩ ∧ vs[2]? = some (.str file tf) ∧ ((P.main.file : Str) == file) = true
  kp : PySem.W.keepIn K (.ref f) = true
  cell : ∃ (cl : Value) (cld : Option Addr) (csl : Array (Option Value)), K.lookup cc = some ⟨cl, cld, .cell (some (.ref D)), csl⟩
  cls : ∃ cd, PySem.W.clsIn K D = some cd
  sup : mg "super" = none
  top : (P.main.scope.names.lookup ("super" : Str)).isSome = false
structure ExcOk (K : PySem.W.Frag) (D f C : Addr) : Prop where
  oex : OexC K C
  ini : PySem.W.findIn K (.ref C) "__init__" = some (some (.ref f))
  noat : PySem.W.findIn K (.ref C) "at" = some none
  sub : PySem.W.mroIn K C (.ref D) = some true
  sup : PySem.W.ks_superIn K C D "__init__" = some (some (.builtin "ValueError.__init__"))
  subV : PySem.W.subIn K (.ref C) (.type "ValueError") = some true
  opq : PySem.W.nsIn K cStatics "thirdparty.any" = some none
  tyI : PySem.W.typeIn K (.ref f) = some (.type "function")
def spInit (K : PySem.W.Frag) (D f : Addr) : Sp := fun vs H Q _ => ∃ (a C : Addr) (k : Int), vs = [.ref a, .int k] ∧ ExcOk K D f C ∧ H a = some (exo a C none) ∧
  ∀ d, H d = none → d ≠ a → Q .non (upd (upd H d (exd d [("at", .int k)])) a (exo a C (some d)))
/-- the scope of that __init__ -/
structure InitSc (st : Stmt) : Prop where
  kind : (defScope st).kind = .function
  co : (defScope st).isCoroutine = false
  gen : (defScope st).isGenerator = false
  self : (defScope st).names.lookup ("self" : Str) = some .local
  at_ : (defScope st).names.lookup ("at" : Str) = some .local
  kls : (defScope st).names.lookup ("__class__" : Str) = some .free
  sup : (defScope st).names.lookup ("super" : Str) = some .globalImplicit
  nocell : ∀ x ∈ (defScope st).names, x.2 ≠ .cell
  free : ∀ x, (defScope st).names.lookup x = some .free → x = ("__class__" : Str)
  par : ((defArgs st).posonlyargs ++ (defArgs st).args).head?.map (·.arg) = some ("self" : Str)
  body : ∃ (p0 p1 p2 p3 p4 p5 p6 p7 p8 p9 : Pos), defBody st = [.Expr (.Call (.Attribute (.Call (.Name "super" p0) [] [] p1) "__init__" p2) [.Name "at" p3] [] p4) p5, .Assign [.Attribute (.Name "self" p6) "at" p7] (.Name "at" p8) p9] ∧
    (∀ env : Env, ∃ pl : Sem Bool, eval (.Call (.Attribute (.Call (.Name "super" p0) [] [] p1) "__init__" p2) [.Name "at" p3] [] p4) env = (do
      let ov ← attributeBase (.Call (.Name "super" p0) [] [] p1) "__init__" env (eval (.Call (.Name "super" p0) [] [] p1) env)
      standAt p2.atName
      let (f, first) ← holding [ov] (getMethod ov "__init__" pl)
      callWith p4 f first (backTo p4 (starEach [.Name "at" p3] env)) [])) ∧ (p4.line == p5.line) = (p4.line == p5.line)

section
variable {P : Program} {w : World} {K : PySem.W.Frag} {mg : Str → Option Value} {base : Heap}
/-- the context of that def's body -/
def cxI (P : Program) (w : World) (K : PySem.W.Frag) (mg : Str → Option Value) (base : Heap) (qual : Str) (scope : Scope) (f cc : Addr) (cd : Value) (A : Around) (outer : List Env) (s : Shared) (H : Hp) (E : Value → Shared → Prop) : Cx where
  prog := P
  w := w
  K := K
  mg := mg
  base := base
  A := A.deeper (PySem.W.ksEnv qual scope s.heap.objs.size f cd cc)
  N := ["self", "at"]
  s_0 := s
  H_0 := H
  env := PySem.W.ksEnv qual scope s.heap.objs.size f cd cc
  outer := outer
  stack := PySem.W.ksEnv qual scope s.heap.objs.size f cd cc :: outer
  ex := []
  calm := true
  fn := fun _ => false
  pn := []
  xe := E
theorem init_ok {qual : Str} {st : Stmt} {f D cc : Addr} {fd : FuncData} (I : InitF P K mg qual st f fd D cc) (S : InitSc st) : FnOk P w K mg base (L2.CX P w) 1 f fd ["self", "at"] (spInit K D f) := by
  refine ⟨fun vs H Q E ⟨a, C, k, e, _⟩ => by rw [e]; rfl, fun A outer s H args us vs Q E hr e0 hb r hsp => ?_⟩
  obtain ⟨oc, od, kV, doc, pm, an, cda, ct, osl, ccl, cdd, vsc, ccs, file, tf, rfl, lkf, hcode, lkc, hvs, hfile⟩ := I.ex
  obtain ⟨cl, cld, csl, lkcell⟩ := I.cell
  obtain ⟨cdD, hclsD⟩ := I.cls
  obtain ⟨a, C, k, rfl, T, Ha, hQ⟩ := hsp
  obtain ⟨ua, uk, rfl, ra, rk⟩ := vals2 r
  obtain rfl : ua = Value.ref a := ra
  obtain ⟨tk, rfl⟩ := rk
  have KX : K.In s.heap := e0.mod.kin.keeps fun b o e => (e0.bs b o e).1
  have lim : s.heap.NoLimit := e0.mod.nolimit.keeps fun b o e => (e0.bs b o e).1
  have hcellB : base.get? cc = some ⟨cl, cld, .cell (some (.ref D)), csl⟩ := e0.mod.kin _ _ lkcell
  refine PySem.ks_codeAny_call_defAt (fd := PySem.W.ksFn "__init__" qual (defArgs st) (defBody st) (defScope st) .none kV doc pm an (.ref cda) ct cc) (body := defBody st) (binds := [("self", .ref a), ("at", .int k tk)]) hr.depth (KX _ _ lkf) rfl lim (PySem.W.codeRec_of KX hcode) rfl hb S.nocell (fun y hy => ?_) (fun h₁ hns hk => ?_) S.co S.gen S.kind
  · rcases List.mem_cons.mp hy with rfl | hy
    · exact S.self
    · rcases List.mem_cons.mp hy with rfl | hy
      · exact S.at_
      · cases hy
  -- the state at the body's start
  show _root_.PySem.wpAt (model P w) (A.deeper (PySem.W.ksEnv qual (defScope st) s.heap.objs.size f (.ref cda) cc)) (.func (defBody st) (PySem.W.ksEnv qual (defScope st) s.heap.objs.size f (.ref cda) cc)) (execs (defBody st) (PySem.W.ksEnv qual (defScope st) s.heap.objs.size f (.ref cda) cc)) _ _ _
  generalize hxe : (fun (e : Value) (s' : Shared) => wpAny (model P w) (A.deeper (callEnv (PySem.W.ksFn "__init__" qual (defArgs st) (defBody st) (defScope st) .none kV doc pm an (.ref cda) ct cc) s.heap.objs.size f)) (leaving (callEnv (PySem.W.ksFn "__init__" qual (defArgs st) (defBody st) (defScope st) .none kV doc pm an (.ref cda) ct cc) s.heap.objs.size f) e) (fun _ s'' => CR (L2.CX P w) outer P w H s Q E (.error e) s'') (fun e' s'' => CR (L2.CX P w) outer P w H s Q E (.error e') s'') s') = XE0
  have hfresh : H s.heap.objs.size = none := e0.hok.fresh (Nat.le_refl _)
  have noA : ∀ b : Addr, b ∉ ([] : List Addr) := fun b z => nomatch z
  have Ok : (cxI P w K mg base qual (defScope st) f cc (.ref cda) A outer s H XE0).Ok := by
    refine ⟨e0.mod, S.kind, rfl, rfl, Nat.le_refl _, fun x y c h1 h2 => ?_, fun x hx => ?_, (fun x c h _ => absurd (show false = true from h) Bool.false_ne_true), fun _ => hr.hd, Around.frames_deeper e0.frames, .inr ⟨rfl, rfl⟩, fun b z => absurd z (noA b), e0.bs, e0.bsz, fun b _ _ => noA b, fun b z => absurd z (noA b), e0.funs, e0.frf⟩
    · have e1 : ([("__class__", cc)] : List (Str × Addr)).lookup x = some c := h1
      have e2 : ([("__class__", cc)] : List (Str × Addr)).lookup y = some c := h2
      have key : ∀ z : Str, ([("__class__", cc)] : List (Str × Addr)).lookup z = some c → z = "__class__" := fun z h => by
        by_cases e : (z == ("__class__" : Str)) = true
        · exact eq_of_beq e
        · simp [List.lookup, e] at h
      rw [key x e1, key y e2]
    · have hx : (defScope st).names.lookup x = some .cell ∨ (defScope st).names.lookup x = some .free := hx
      rcases hx with hx | hx
      · exact absurd rfl (S.nocell _ (PySem.mem_of_lookup hx))
      · rw [S.free x hx]
        exact ⟨cc, rfl⟩
  have hm : ∀ m, h₁.Ns s.heap.objs.size m → True := fun _ _ => trivial
  have lself : ([("self", Value.ref a), ("at", Value.int k tk)] : List (Str × Value)).reverse.lookup ("self" : Str) = some (.ref a) := by rfl
  have lat : ([("self", Value.ref a), ("at", Value.int k tk)] : List (Str × Value)).reverse.lookup ("at" : Str) = some (.int k tk) := by rfl
  have I0 : Inv (cxI P w K mg base qual (defScope st) f cc (.ref cda) A outer s H XE0) [] [some (.ref a), some (.int k)] H { s with heap := h₁, toks := s.toks + 2 } := by
    refine ⟨Ok, rfl, e0.bare, Un.kept hk, ⟨_, hns, fun i x v h1 h2 h3 => ?_⟩, fun x c hc => ?_, hfresh, fun x c hc => ?_, fun p hp => absurd (show p ∈ ([] : List (Addr × Obj)) from hp) (by simp), e0.hok.kept hk, rfl⟩
    · match i with
      | 0 => cases h1; cases h2; exact ⟨.ref a, rfl, .inl ⟨S.self, lself⟩⟩
      | 1 => cases h1; cases h2; exact ⟨.int k tk, ⟨tk, rfl⟩, .inl ⟨S.at_, lat⟩⟩
      | i + 2 => simp [cxI] at h1
    · have hc' : ([("__class__", cc)] : List (Str × Addr)).lookup x = some c := hc
      by_cases e : (x == ("__class__" : Str)) = true
      · simp [List.lookup, e] at hc'
        rw [← hc']
        exact ⟨_, _, hk _ _ (e0.bs _ _ hcellB).1, rfl⟩
      · simp [List.lookup, e] at hc'
    · have hc' : ([("__class__", cc)] : List (Str × Addr)).lookup x = some c := hc
      by_cases e : (x == ("__class__" : Str)) = true
      · simp [List.lookup, e] at hc'
        rw [← hc']
        exact (e0.bs _ _ hcellB).2
      · simp [List.lookup, e] at hc'
  obtain ⟨p0, p1, p2, p3, p4, p5, p6, p7, p8, p9, hbody, heq, _⟩ := S.body
  obtain ⟨pl, heq⟩ := heq (PySem.W.ksEnv qual (defScope st) s.heap.objs.size f (.ref cda) cc)
  rw [hbody]
  refine PySem.ks_wpAt_execs_cons (PySem.ks_wpAt_Expr_any (PySem.ks_wpAt_MethodCall (pl := pl) ?_ heq) (by simp [interactive, S.kind]))
  -- super()
  obtain ⟨ar, har, hara⟩ : ∃ ar, ((defArgs st).posonlyargs ++ (defArgs st).args).head? = some ar ∧ ar.arg = ("self" : Str) := by
    have := S.par
    cases e : ((defArgs st).posonlyargs ++ (defArgs st).args).head? with
    | none => rw [e] at this; cases this
    | some ar => rw [e] at this; exact ⟨ar, rfl, Option.some.inj this⟩
  obtain ⟨oD, hD1, hD2⟩ : ∃ oD, K.lookup D = some oD ∧ oD.data = .cls cdD := by
    have hclsD := hclsD
    unfold PySem.W.clsIn at hclsD
    split at hclsD
    · rename_i c d cd' sl ho
      cases hclsD
      exact ⟨_, ho, rfl⟩
    · cases hclsD
  have X1 : K.In h₁ := fun b o e => hk _ _ (KX b o e)
  obtain ⟨t1, hoa⟩ := exo_at I0.hok Ha
  have Iat : PySem.W.InstAt h₁ a { cls := .ref C, dict := none, data := .fields #[.ref t1, .none, .none, .none, .bool false, .none] } C none := ⟨hoa, rfl, rfl, trivial⟩
  obtain ⟨mb, hb1, hb2⟩ := e0.mod.blt
  refine PySem.ks_wpAt_super_base (env := PySem.W.ksEnv qual (defScope st) s.heap.objs.size f (.ref cda) cc) S.sup S.kls (by decide) rfl (X1 _ _ lkf) rfl har rfl (X1 _ _ lkc) rfl hvs hfile I.top ?_
  refine PySem.W.ks_loadName_global S.kind S.sup (PySem.Calls.loadGlobal_builtin (env := PySem.W.ksEnv qual (defScope st) s.heap.objs.size f (.ref cda) cc) (e0.mod.glob.keeps fun b o e => hk _ _ (e0.bs b o e).1) I.sup (hb1.keeps fun b o e => hk _ _ (e0.bs b o e).1) ((hb2 _ (by decide)).trans (by decide +kernel)) ⟨rfl, ?_⟩)
  refine wpAny_loadName_free S.kind S.kls rfl ⟨_, X1 _ _ lkcell, rfl⟩ ?_
  rw [hara]
  refine wpAny_loadName_local S.kind S.self hns lself ?_
  refine PySem.ks_wpAny_isType_cls (X1 _ _ hD1) hD2 ⟨rfl, ?_⟩
  refine PySem.ks_wpAny_call_super (X1 _ _ hD1) hD2 hoa rfl (fun c e => nomatch e) (PySem.W.looks_mroIn X1 T.sub) fun h₂ hso hk2 => ?_
  -- its __init__
  have X2 : K.In h₂ := fun b o e => hk2 _ _ (X1 b o e)
  have hoa2 := hk2 _ _ hoa
  have Iat2 : PySem.W.InstAt h₂ a { cls := .ref C, dict := none, data := .fields #[.ref t1, .none, .none, .none, .bool false, .none] } C none := ⟨hoa2, rfl, rfl, trivial⟩
  obtain ⟨nm, q, N', bs', bm, sn, sub, ab, col, dd, k0, k1, k2, k3, k5, hC, hbm⟩ := T.oex.cls
  have hcl : PySem.W.clsIn K C = some { name := nm, bases := bs', mro := .ref C :: bm, ns := N', qualname := q, hasDict := true, slotNames := sn, subclasses := sub, abstract := ab, collection := col, hasDel := false } := by unfold PySem.W.clsIn; rw [hC] <;> rfl
  have hsup := T.sup
  unfold PySem.W.ks_superIn at hsup
  rw [hcl] at hsup
  refine PySem.W.kxs_getMethod PySem.W.kxs_ValueError hso (PySem.W.looks_opaque X2 T.opq) (l₀ := .ref C :: bm) (fun A Q E s k q => wpAny_bind ((PySem.W.looks_clsIn X2 hcl) A _ E s k (wpAny_pure q))) rfl X2 hsup (Iat2.type.andThen (PySem.W.looks_subIn X2 T.subV)) (PySem.W.ks_ne X2 Iat2 hcl) (by decide) ?_
  -- its call
  have hu3 : (h₂.push (PySem.W.kxs_mw "ValueError.__init__" a)).get? h₂.objs.size = some (PySem.W.kxs_mw "ValueError.__init__" a) := Heap.get?_push_size _ rfl
  have hk3 : ∀ b o, h₁.get? b = some o → (h₂.push (PySem.W.kxs_mw "ValueError.__init__" a)).get? b = some o := fun b o e => Heap.get?_push_of_some _ (hk2 _ _ e)
  have I1 : Inv (cxI P w K mg base qual (defScope st) f cc (.ref cda) A outer s H XE0) [] [some (.ref a), some (.int k)] H { s with heap := h₂.push (PySem.W.kxs_mw "ValueError.__init__" a), toks := s.toks + 2 + 1 } := I0.kept (t' := s.toks + 2 + 1) hk3
  have hlt : s.heap.objs.size < (h₂.push (PySem.W.kxs_mw "ValueError.__init__" a)).objs.size := I1.lt
  have I1p : Inv (cxI P w K mg base qual (defScope st) f cc (.ref cda) A outer s H XE0) [(h₂.objs.size, PySem.W.kxs_mw "ValueError.__init__" a)] [some (.ref a), some (.int k)] H { s with heap := h₂.push (PySem.W.kxs_mw "ValueError.__init__" a), toks := s.toks + 2 + 1 } := I1.pins_of fun p hp => by
    have ep : p = (h₂.objs.size, PySem.W.kxs_mw "ValueError.__init__" a) := by simpa using hp
    subst ep
    have lt1 : s.heap.objs.size < h₂.objs.size := by
      obtain ⟨o, _, _, ho, _⟩ := hns
      exact Heap.lt_size (hk2 _ _ ho)
    refine ⟨hu3, ?_, Nat.ne_of_gt lt1, ?_, fun v e => nomatch e⟩
    · have := (I0.kept (t' := s.toks + 2) hk2).hok.fresh (Nat.le_refl _)
      exact this
    · exact (I0.kept (t' := s.toks + 2) hk2).nofs (Nat.le_refl _)
  refine PySem.W.kxs_callWith (i := "ValueError.__init__") (x := a) (M := model P w) (by rfl) ?_
  refine PySem.Calls.evalArgs_plain ?_
  have vat : Vis (cxI P w K mg base qual (defScope st) f cc (.ref cda) A outer s H XE0).env.scope "at" := .inl S.at_
  have vself : Vis (cxI P w K mg base qual (defScope st) f cc (.ref cda) A outer s H XE0).env.scope "self" := .inl S.self
  have pat : ∀ p : Pos, PE (cxI P w K mg base qual (defScope st) f cc (.ref cda) A outer s H XE0) (.Name "at" p) (tVar 1) := fun p => pe_var (by rfl) vat
  have pself : ∀ p : Pos, PE (cxI P w K mg base qual (defScope st) f cc (.ref cda) A outer s H XE0) (.Name "self" p) (tVar 0) := fun p => pe_var (by rfl) vself
  refine thn ((pa_cons (pat p3) pa_nil).run p4 [(h₂.objs.size, PySem.W.kxs_mw "ValueError.__init__" a)] _ [some (.ref a), some (.int k)] H (fun vs H1 => vs = [.int k] ∧ H1 = H) I1p ⟨_, rfl, rfl, rfl⟩) fun us s2 ⟨vs, H1, I2, rv, ev, eH⟩ => ?_
  subst ev
  rw [eH] at I2
  obtain ⟨u1, rfl, ru⟩ := vals1 rv
  have hu2 := (I2.pin (h₂.objs.size, PySem.W.kxs_mw "ValueError.__init__" a) (List.mem_append_right _ List.mem_cons_self)).1
  obtain ⟨t2, hoa3⟩ := exo_at I2.hok Ha
  refine ⟨hu2, ?_⟩
  obtain ⟨hp2, g2, d2, tk2, os2⟩ := s2
  refine call_mwVE (I2.kIn _ _ hC) hoa3 hu2 (by rw [sizeLine_eq]; exact (by decide : (1 : Nat) ≤ 16777216)) fun h4 t4 hk4 ho4 => ?_
  have I3 : Inv (cxI P w K mg base qual (defScope st) f cc (.ref cda) A outer s H XE0) [] [some (.ref a), some (.int k)] H ⟨h4, g2, d2, tk2, os2⟩ := by
    have J := (I2.pins_of (pins' := []) fun p hp => absurd hp (by simp)).write (t' := tk2) (x := a) (e := a) (o := exo a C none) (by rw [Ha]; exact True.intro) (.inl rfl) hk4 ⟨_, ho4⟩ (exo_ok ho4)
    have eu : upd H a (exo a C none) = H := by
      funext b
      by_cases hb : b = a
      · rw [hb, upd_same, Ha]
      · rw [upd_ne hb]
    rw [eu] at J
    exact J
  -- self.at = at
  refine wpAt_of_wpAny ?_
  have q : PSs (cxI P w K mg base qual (defScope st) f cc (.ref cda) A outer s H XE0) [.Assign [.Attribute (.Name "self" p6) "at" p7] (.Name "at" p8) p9] (tOst K "at" (tVar 0) (tVar 1)) := pss_one (ps_ost (pself p6) (pat p8) (by rfl))
  refine wpAny_mono (q.run [] _ [some (.ref a), some (.int k)] H { nx := fun _ H' => Q .non H', rt := fun _ _ => False } I3 ⟨_, rfl, _, rfl, a, C, rfl, T.oex, T.noat, .inl ⟨Ha, fun d hd ne => hQ d hd ne⟩⟩) (fun fl s' hs => ?_) fun e s' hs => ?_
  · cases fl with
    | next =>
      obtain ⟨σ', H', J, q⟩ := hs
      exact ⟨.non, H', J.os, J.bare, J.base, J.hok, rfl, q⟩
    | ret u =>
      obtain ⟨_, _, _, _, _, q⟩ := hs
      exact False.elim q
    | brk =>
      obtain ⟨_, _, _, q⟩ := hs
      exact False.elim q
    | cont =>
      obtain ⟨_, _, _, q⟩ := hs
      exact False.elim q
  · exact hs
end
end Pf
/-! Pf7: raise, try. -/
namespace Pf
open PySem PySem.Spec PyProof.Rows L2

section
variable {X : Cx} {W : WX} {pos : Pos}
theorem pq_raise {x : Str} {p pos' : Pos} {C D fI : Addr} {fd : FuncData} {e : Expr} {f : Ro → Res PyData} (hc : X.calm = true) (tk : Takes X W) (T : ExcOk X.K D fI C) (F1 : FnOk X.prog X.w X.K X.mg X.base (L2.CX X.prog X.w) 1 fI fd ["self", "at"] (spInit X.K D fI)) (hr : Room 2 X.A) (hb : Binds X.K fd ["self", "at"] [])
    (hg : Gl X x) (hm : X.mg x = some (.ref C)) (he : PE X e (tB X.K X.mg W f)) (hdb : (x == ("__debug__" : Str)) = false := by decide) (hst : starEach [e] X.env = (false, eval e X.env) :: starEach [] X.env := by rfl) (hpl : (backTo pos' (starEach [] X.env)).any (·.1) = false := by rfl) :
    PS X (.Raise (some (.Call (.Name x p) [e] [] pos')) none pos) (tS X.K X.mg W (sRaise x f)) :=
  (ps_raise hc tk (pmk_oex T.oex T.ini T.tyI F1 hr hb .nil passL hg hm (pa_cons he pa_nil hst) hdb hst hpl)).imp fun D' σ H ⟨B, F0, F, ρ, S, p⟩ => by
    refine ⟨B, F0, F, ρ, S, PostE.of_out S p fun d _ q F' H' v st r => ?_⟩
    cases d with
    | int k =>
      have q : PostS X.K X.mg W B F0 F H D' (.exc x k) := q
      refine ⟨by simp, fun a ha => ⟨a, C, k, by rw [r.int']; rfl, T, upd_same, fun d hd ne => ⟨rfl, d, _, upd_same, by rw [upd_ne ne, upd_same], ?_, ?_⟩⟩⟩
      · rw [upd_ne ne] at hd; exact hd
      · refine q σ _ d C (fun b o e => ?_) upd_same hm
        have e' := st.keep _ _ (S.same b o e)
        have h1 : b ≠ a := ne_of_none e' ha
        have hd' : H' d = none := by rw [upd_ne ne] at hd; exact hd
        have h2 : b ≠ d := ne_of_none e' hd'
        rw [upd_ne h2, del_ne h1, upd_ne h1, upd_ne h2, upd_ne h1]
        exact e'
    | _ => exact q.elim
end

/-! ### try: body; except x as n: return .. (several) -/
def wManyAs (K : PySem.W.Frag) (i : Nat) (Wout : WX) (D : Ends) : List (Value × (Addr → Value → Option Addr → TS)) → WX
  | [] => Wout
  | (c, ts) :: r => fun cls d σ H => ∃ b, PySem.W.exmOne K cls c = some b ∧ (b = true → ∀ a, H a = none → ts a cls d { nx := fun σ' H' => D.nx (σ'.set i none) H', rt := D.rt, bk := fun σ' H' => D.bk (σ'.set i none) H', ct := fun σ' H' => D.ct (σ'.set i none) H' } (σ.set i (some (.ref a))) H) ∧ (b = false → wManyAs K i Wout D r cls d σ H)
inductive HdsAs (X : Cx) (n : Str) : List ExceptHandler → List (Value × (Addr → Value → Option Addr → TS)) → Prop
  | nil : HdsAs X n [] []
  | cons {x : Str} {c : Value} {ts : Addr → Value → Option Addr → TS} {b₀ : Stmt} {suite : List Stmt} {np pos' : Pos} {hds : List ExceptHandler} {l : List (Value × (Addr → Value → Option Addr → TS))} (hc : Names X x c)
      (hsu : ∀ (a : Addr) (oe : Obj) (cls : Value) (d : Option Addr) (pn : List (Addr × Obj)), Zc cls d oe → (∃ vs, oe.data = .fields vs) → PSs (X.suite a ((a, oe) :: pn)) (b₀ :: suite) (ts a cls d)) (r : HdsAs X n hds l) :
      HdsAs X n (.ExceptHandler (some (.Name x np)) (some n) (b₀ :: suite) pos' :: hds) ((c, ts) :: l)
section
variable {X : Cx} {n : Str} {i : Nat} {body : List Stmt} {h₀ : ExceptHandler} {hds : List ExceptHandler} {l : List (Value × (Addr → Value → Option Addr → TS))} {pos : Pos} {tb : WX → TS} {Wout : WX}
theorem ps_try_manyAs (hs : X.stack = X.env :: X.outer) (hf : X.env.frame = some X.env.locals) (hN : X.N.Nodup) (hi : X.N[i]? = some n) (hln : X.env.kindOf n = some .local) (tk : Takes X Wout)
    (hb : ∀ (W : WX) (pn : List (Addr × Obj)) (xe : Value → Shared → Prop), Takes (X.tr pn xe) W → PassesOwn (model X.prog X.w) X.A X.env xe → PSs (X.tr pn xe) body (tb W))
    (hh : HdsAs X n (h₀ :: hds) l) : PS X (.Try body (h₀ :: hds) [] [] pos) (fun D σ H => tb (wManyAs X.K i Wout D l) D σ H) := by
  refine ⟨fun pins s σ H D I h => ?_⟩
  have ok := I.ok
  have hloc : Loc X.env.scope n := .inl hln
  have hfr : X.A.frames = some (X.env :: X.outer) := by rw [ok.frames, hs]
  refine wpAny_Try_except ?_
  refine wpAny_mono ((hb (wManyAs X.K i Wout D l) (X.pn ++ pins) (fun e s₁ => wpAny (model X.prog X.w) X.A (noteFrame e X.env) (fun _ s₂ => wpAny (model X.prog X.w) X.A (setFlight e none) (fun _ s₃ =>
    wpAny (model X.prog X.w) X.A (handleBy e X.env (h₀ :: hds)) (SP X pins D) X.xe s₃) X.xe s₂) X.xe s₁) (fun u s' xx => ?_) PassesOwn.looking).run [] s σ H D (I.toTry _) h) (fun f s1 hsp => ?_) (fun e s1 he => he)
  · -- the catch
    obtain ⟨a, B, sI, pins', σ', H', cls, d, rfl, J', nb, up, sky, na, os, ag, w⟩ := xx
    have J : Inv X pins σ' H' sI := J'.ofTry ok
    have sky' : Sky B (X.env :: X.outer) a (Zc cls d) X.env.locals s'.heap := by rw [← hs]; exact sky
    show wpAny (model X.prog X.w) X.A (noteFrame (.ref a) X.env) _ _ _
    refine Sky.land Zc.steady hfr hf sky' fun h3 fl3 up3 => ?_
    have J3 : Inv X pins σ' H' { s' with heap := h3 } := J.landed nb fl3.1 (up.trans up3) os ag
    obtain ⟨oe3, vs3, he3, hz3, hd3⟩ := fl3.there
    have notFr : ∀ {h : Heap} {o : Obj} {vs : Array Value}, h.FunFrames B (X.env :: X.outer) → h.get? a = some o → o.data = .fields vs → a ∉ frs (X.env :: X.outer) := fun {h o vs} ff e dd hm => by
      obtain ⟨_, o', e', hnf⟩ := ff.mem hm
      rw [e] at e'; cases e'
      exact hnf _ dd
    have nfr := notFr fl3.2.2.1 he3 hd3
    have nL : a ≠ X.env.locals := fun z => nfr (List.mem_filterMap.mpr ⟨X.env, List.mem_cons_self, by rw [hf, z]⟩)
    have nF : a ∉ X.fs := fun hm => by
      obtain ⟨e, he, q⟩ := List.mem_filterMap.mp hm
      exact nfr (List.mem_filterMap.mpr ⟨e, List.mem_cons_of_mem _ he, q⟩)
    have S3 := J3.suite he3 hd3 na nL nF
    have go : ∀ {hds' : List ExceptHandler} {l' : List (Value × (Addr → Value → Option Addr → TS))}, HdsAs X n hds' l' → wManyAs X.K i Wout D l' cls d σ' H' →
        wpAny (model X.prog X.w) X.A (handleBy (.ref a) X.env hds') (SP X pins D) X.xe { s' with heap := h3 } := by
      intro hds' l' hk
      induction hk with
      | nil =>
        intro w
        refine wpAny_handleBy_nil ?_
        obtain ⟨k1, k2, k3, oe, vs, T, oT, ts', he, hz, hd, h1, hr⟩ := id fl3
        unfold PySem.passOn
        refine wpAny_bind (wpAny_field he hd h1 ?_)
        rw [if_neg (show ¬ ((Value.ref T == Value.none) = true) from by simp)]
        have fin : wpAny (model X.prog X.w) X.A (setFlight (.ref a) X.env.frame) (fun _ s4 => wpAny (model X.prog X.w) X.A (throw (.ref a) : Sem Flow) (SP X pins D) X.xe s4) X.xe { s' with heap := h3 } := by
          rw [hf]
          refine HandSPX.setFlight_upZ fl3 fun h4 hh4 up4 => wpAny_throw (tk _ _ ?_)
          exact ⟨a, B, sI, pins, σ', H', cls, d, rfl, J, nb, (up.trans up3).trans up4, .inr (.inr (by rw [hs]; exact hh4)), na, os, ag, w⟩
        first
          | exact wpAny_bind (wpAny_pure (wpAny_bind fin))
          | exact wpAny_bind fin
      | @cons x c ts b₀ suite np pos' hds2 l2 hc hsu r ih =>
        intro w
        obtain ⟨b, hb1, hyes, hno⟩ := w
        refine wpAny_handleBy_cons (codeAny_handlers_test ?_) (by intro q; cases q)
        have LT : PySem.W.Looks (model X.prog X.w) h3 (typeOf (.ref a)) cls := fun A Q E s k q => wpAny_typeOf_ref (k _ _ he3) (by rw [hz3.1]; exact q)
        have LM := PySem.W.exm_one (M := model X.prog X.w) (J3.kIn) LT hb1
        have test : ∀ {Q : Value → Shared → Prop} {E : Value → Shared → Prop}, Q c { s' with heap := h3 } → wpAny (model X.prog X.w) (X.A.mark (some (.ref a))) (eval (.Name x np) X.env) Q E { s' with heap := h3 } := fun {Q E} q => by
          obtain ⟨hg, hdbg, hm | ⟨hm, hv, hnn⟩⟩ := hc
          · exact ld_glob (X := X.suite a ((a, oe3) :: (X.pn ++ pins))) S3 hg hm q hdbg
          · exact ld_blt (X := X.suite a ((a, oe3) :: (X.pn ++ pins))) S3 hg hm hv q hnn hdbg
        refine test (LM.here ?_)
        cases b with
        | true =>
          refine codeAny_handlers_suite_as ?_
          refine HandSPX.lands_againZ fl3 fun h4 fl4 up4 => ?_
          have J4 : Inv X pins σ' H' { s' with heap := h4 } := J.landed nb fl4.1 ((up.trans up3).trans up4) os ag
          obtain ⟨oe4, vs4, he4, hz4, hd4⟩ := fl4.there
          have S4 := J4.suite he4 hd4 na nL nF
          refine store_ok (X := X.suite a ((a, oe4) :: (X.pn ++ pins))) (v := .ref a) S4 hN hi hloc rfl (fun s5 S5 => ?_) (.inr hln)
          refine wpAny_mono ((hsu a oe4 cls d (X.pn ++ pins) hz4 ⟨_, hd4⟩).run [] s5 _ H' _ S5 (hyes rfl a na)) (fun f s6 hsp => ?_) (fun _ _ z => False.elim z)
          have end_ : ∀ {σ6 : L2.St} {H6 : Hp} {Q : Shared → Prop}, Inv (X.suite a ((a, oe4) :: (X.pn ++ pins))) [] σ6 H6 s6 → (∀ s7, Inv X pins (σ6.set i none) H6 s7 → Q s7) →
              wpAny (model X.prog X.w) X.A (do bindName X.env n .none; unbindBehindTheSuite X.env n pos') (fun _ s7 => Q s7) X.xe s6 := fun {σ6 H6 Q} S6 hq => gone_ok (S6.unsuite ok) hN hi hln hq
          cases f with
          | next =>
            obtain ⟨σ6, H6, S6, q6⟩ := hsp
            exact end_ S6 fun s7 J7 => ⟨_, _, J7, q6⟩
          | brk =>
            obtain ⟨σ6, H6, S6, q6⟩ := hsp
            exact end_ S6 fun s7 J7 => ⟨_, _, J7, q6⟩
          | cont =>
            obtain ⟨σ6, H6, S6, q6⟩ := hsp
            exact end_ S6 fun s7 J7 => ⟨_, _, J7, q6⟩
          | ret u =>
            obtain ⟨v6, σ6, H6, S6, r6, q6⟩ := hsp
            exact end_ S6 fun s7 J7 => ⟨_, _, _, J7, r6, q6⟩
        | false =>
          show wpAny _ X.A (handleBy (.ref a) X.env hds2) _ _ _
          exact ih (hno rfl)
    exact go hh w
  · cases f with
    | next =>
      obtain ⟨σ', H', J', q⟩ := hsp
      exact wpAny_execs_nil ⟨σ', H', J'.ofTry ok, q⟩
    | brk =>
      obtain ⟨σ', H', J', q⟩ := hsp
      exact ⟨σ', H', J'.ofTry ok, q⟩
    | cont =>
      obtain ⟨σ', H', J', q⟩ := hsp
      exact ⟨σ', H', J'.ofTry ok, q⟩
    | ret u =>
      obtain ⟨v, σ', H', J', r, q⟩ := hsp
      exact ⟨v, σ', H', J'.ofTry ok, r, q⟩
end

/-- what a handler hands back -/
def tHd (K : PySem.W.Frag) (i : Nat) (h : Int → PyData) (a : Addr) (cls : Value) (d : Option Addr) : TS := fun D σ H => (i < σ.length → σ[i]? = some (some (.ref a))) ∧
  ∃ (C dx : Addr) (k : Int), cls = .ref C ∧ XfC K C ∧ PySem.W.findIn K (.ref C) "at" = some none ∧ d = some dx ∧ H dx = some (.xd [("at", .int k)]) ∧ ∀ v F' H', Stp (fun _ => False) H F' H' → Rp K F' H' v (h k) → D.rt v H'
/-- the handlers by their data -/
def hdTs (K : PySem.W.Frag) (i : Nat) : List (Addr × (Int → PyData)) → List (Value × (Addr → Value → Option Addr → TS))
  | [] => []
  | (C, h) :: r => (.ref C, tHd K i h) :: hdTs K i r
section
variable {X : Cx} {pos : Pos}
/-- e.at, e the caught error in slot i -/
theorem hd_at {i : Nat} {n : Str} {a : Addr} {oe : Obj} {cls : Value} {d : Option Addr} {pn : List (Addr × Obj)} {p1 p2 : Pos} {C : Addr} (hN : X.N[i]? = some n) (hv : Vis X.env.scope n) (hz : Zc cls d oe) (hf : ∃ vs, oe.data = .fields vs) (T : XfC X.K C) (hno : PySem.W.findIn X.K (.ref C) "at" = some none) (hd : (n == ("__debug__" : Str)) = false := by decide) (hcd : (n == ("__classdict__" : Str)) = false := by decide)
    (hb : attributeBase (.Name n p1) "at" X.env (eval (.Name n p1) X.env) = eval (.Name n p1) X.env := by rfl) : PE (X.suite a ((a, oe) :: pn)) (.Attribute (.Name n p1) "at" p2) (tXf a cls d C "at" (tVar i)) :=
  pe_xf (X := X) T hno hz hf (pe_var hN hv hd hcd) hb
theorem suite_at {i : Nat} {n : Str} {p1 p2 p3 : Pos} (hi : i < X.N.length) (hN : X.N[i]? = some n) (hv : Vis X.env.scope n) (hd : (n == ("__debug__" : Str)) = false := by decide) (hcd : (n == ("__classdict__" : Str)) = false := by decide)
    (hb : attributeBase (.Name n p1) "at" X.env (eval (.Name n p1) X.env) = eval (.Name n p1) X.env := by rfl) : ∀ (a : Addr) (oe : Obj) (cls : Value) (d : Option Addr) (pn : List (Addr × Obj)), Zc cls d oe → (∃ vs, oe.data = .fields vs) →
      PSs (X.suite a ((a, oe) :: pn)) [.Return (some (.Attribute (.Name n p1) "at" p2)) p3] (tHd X.K i (fun k => .int k) a cls d) := fun a oe cls d pn hz hf => by
  refine pss_one ⟨fun pins s σ H D I ⟨hσ, C, dx, k, ec, T, hno, ed, hx, hr⟩ => ?_⟩
  have hσ := hσ (by rw [I.len]; exact hi)
  refine (ps_ret (hd_at (X := X) hN hv hz hf T hno hd hcd hb)).run pins s σ H D I ?_
  exact ⟨_, hσ, rfl, ec, dx, _, .int k, ed, hx, rfl, hr _ _ _ Stp.refl (.int k)⟩
theorem suite_pair {i : Nat} {n z : Str} {p1 p2 p3 p4 p5 : Pos} {kk kt : Nat} (hi : i < X.N.length) (hN : X.N[i]? = some n) (hv : Vis X.env.scope n) (hd : (n == ("__debug__" : Str)) = false := by decide) (hcd : (n == ("__classdict__" : Str)) = false := by decide)
    (hb : attributeBase (.Name n p1) "at" X.env (eval (.Name n p1) X.env) = eval (.Name n p1) X.env := by rfl) (hst : ∀ Y : Cx, Y.env = X.env → starEach [Expr.Constant (.str z) kk p4, .Attribute (.Name n p1) "at" p2] Y.env = (false, eval (.Constant (.str z) kk p4) Y.env) :: starEach [.Attribute (.Name n p1) "at" p2] Y.env := by intro Y e; rw [e]; rfl) (hst2 : ∀ Y : Cx, Y.env = X.env → starEach [Expr.Attribute (.Name n p1) "at" p2] Y.env = (false, eval (.Attribute (.Name n p1) "at" p2) Y.env) :: starEach [] Y.env := by intro Y e; rw [e]; rfl) :
    ∀ (a : Addr) (oe : Obj) (cls : Value) (d : Option Addr) (pn : List (Addr × Obj)), Zc cls d oe → (∃ vs, oe.data = .fields vs) →
      PSs (X.suite a ((a, oe) :: pn)) [.Return (some (.Tuple [.Constant (.str z) kk p4, .Attribute (.Name n p1) "at" p2] kt p5)) p3] (tHd X.K i (fun k => .tuple [.str z, .int k]) a cls d) := fun a oe cls d pn hz hf => by
  refine pss_one ⟨fun pins s σ H D I ⟨hσ, C, dx, k, ec, T, hno, ed, hx, hr⟩ => ?_⟩
  have hσ := hσ (by rw [I.len]; exact hi)
  refine (ps_ret (pe_tup (pa_cons pe_str (pa_cons (hd_at (X := X) hN hv hz hf T hno hd hcd hb) pa_nil (hst2 _ rfl)) (hst _ rfl)))).run pins s σ H D I ?_
  refine ⟨_, hσ, rfl, ec, dx, _, .int k, ed, hx, rfl, by rw [sizeLine_eq]; exact (by decide : (2 : Nat) ≤ 16777216), fun p hp => hr _ _ _ (Stp.add hp) (Rp.newT hp (.cons (.str z) (.cons (.int k) .nil)))⟩
theorem suite_none {i : Nat} {p3 p4 : Pos} {kk : Nat} : ∀ (a : Addr) (oe : Obj) (cls : Value) (d : Option Addr) (pn : List (Addr × Obj)), Zc cls d oe → (∃ vs, oe.data = .fields vs) →
      PSs (X.suite a ((a, oe) :: pn)) [.Return (some (.Constant .none kk p4)) p3] (tHd X.K i (fun _ => .none) a cls d) := fun a oe cls d pn hz hf => by
  refine pss_one ⟨fun pins s σ H D I ⟨hσ, C, dx, k, ec, T, hno, ed, hx, hr⟩ => ?_⟩
  exact (ps_ret pe_non).run pins s σ H D I (hr _ _ _ Stp.refl .non)

/-- the handlers' classes; cs: the classes that may be raised -/
inductive HdD (X : Cx) (n : Str) (i : Nat) : List ExceptHandler → List (Str × (Int → PyData)) → List (Addr × (Int → PyData)) → Prop
  | nil : HdD X n i [] [] []
  | cons {x : Str} {C : Addr} {h : Int → PyData} {b₀ : Stmt} {suite : List Stmt} {np pos' : Pos} {hds : List ExceptHandler} {l : List (Str × (Int → PyData))} {m : List (Addr × (Int → PyData))} (hg : Gl X x) (hm : X.mg x = some (.ref C))
      (hsu : ∀ (a : Addr) (oe : Obj) (cls : Value) (d : Option Addr) (pn : List (Addr × Obj)), Zc cls d oe → (∃ vs, oe.data = .fields vs) → PSs (X.suite a ((a, oe) :: pn)) (b₀ :: suite) (tHd X.K i h a cls d)) (r : HdD X n i hds l m) (hdb : (x == ("__debug__" : Str)) = false := by decide) :
      HdD X n i (.ExceptHandler (some (.Name x np)) (some n) (b₀ :: suite) pos' :: hds) ((x, h) :: l) ((C, h) :: m)
theorem HdD.as {n : Str} {i : Nat} {hds : List ExceptHandler} {l : List (Str × (Int → PyData))} {m : List (Addr × (Int → PyData))} (h : HdD X n i hds l m) : HdsAs X n hds (hdTs X.K i m) := by
  induction h with
  | nil => exact .nil
  | cons hg hm hsu r hdb ih => exact .cons ⟨hg, hdb, .inl hm⟩ hsu ih
def sTryC (cs : List Str) (g : Ro → Out) (hs : List (Str × (Int → PyData))) : Ro → Out := fun ρ => match g ρ with
  | .exc c k => if cs.contains c = true then hdl hs c k else .bad
  | o => o
theorem pq_try {n : Str} {i : Nat} {W : WX} {cs : List Str} {body : List Stmt} {h₀ : ExceptHandler} {hds : List ExceptHandler} {l : List (Str × (Int → PyData))} {m : List (Addr × (Int → PyData))} {g : Ro → Out} (hs : X.stack = X.env :: X.outer) (hf : X.env.frame = some X.env.locals) (hN : X.N.Nodup) (hi : X.N[i]? = some n) (hln : X.env.kindOf n = some .local) (tk : Takes X W)
    (hcs : ∀ c ∈ cs, ∀ C, X.mg c = some (.ref C) → XfC X.K C ∧ PySem.W.findIn X.K (.ref C) "at" = some none ∧ ∀ x D, (∃ h, (x, h) ∈ l) → X.mg x = some (.ref D) → PySem.W.exmOne X.K (.ref C) (.ref D) = some (decide (c = x)))
    (hb : ∀ (W : WX) (pn : List (Addr × Obj)) (xe : Value → Shared → Prop), Takes (X.tr pn xe) W → PassesOwn (model X.prog X.w) X.A X.env xe → PSs (X.tr pn xe) body (tS X.K X.mg W g))
    (hh : HdD X n i (h₀ :: hds) l m) : PS X (.Try body (h₀ :: hds) [] [] pos) (tS X.K X.mg W (sTryC cs g l)) :=
  (ps_try_manyAs hs hf hN hi hln tk hb hh.as).imp fun D σ H ⟨B, F0, F, ρ, S, p⟩ => by
    refine ⟨B, F0, F, ρ, S, ?_⟩
    unfold sTryC at p
    cases eg : g ρ with
    | nx ρ' => rw [eg] at p; exact p
    | bk ρ' => rw [eg] at p; exact p
    | ct ρ' => rw [eg] at p; exact p
    | ret d => rw [eg] at p; exact p
    | bad => rw [eg] at p; exact p
    | exc c k =>
      rw [eg] at p
      have p : PostS X.K X.mg W B F0 F H D (if cs.contains c = true then hdl l c k else .bad) := p
      intro σ' H' dx C hB hx hm
      split at p
      · rename_i hc
        obtain ⟨hXf, hat, hex⟩ := hcs c (by simpa using hc) C hm
        clear eg hb tk
        have key : ∀ {hds : List ExceptHandler} {l' : List (Str × (Int → PyData))} {m' : List (Addr × (Int → PyData))}, HdD X n i hds l' m' → (∀ x h, (x, h) ∈ l' → (x, h) ∈ l) → PostS X.K X.mg W B F0 F H D (hdl l' c k) → wManyAs X.K i W D (hdTs X.K i m') (.ref C) (some dx) σ' H' := by
          intro hds l' m' hk
          induction hk with
          | nil => exact fun _ p => p σ' H' dx C hB hx hm
          | @cons x D' h b₀ suite np pos' hds l2 m2 hg hm2 hsu r hdb ih =>
            intro hsub p
            refine ⟨decide (c = x), hex x D' ⟨h, hsub x h (List.mem_cons_self ..)⟩ hm2, fun e a ha => ?_, fun e => ?_⟩
            · have e : c = x := of_decide_eq_true e
              unfold hdl at p
              rw [if_pos e] at p
              refine ⟨fun hl => List.getElem?_set_self (by simpa using hl), C, dx, k, rfl, hXf, hat, rfl, hx, fun v F' H2 st r => ?_⟩
              refine p v (fun b => F0 b ∨ F' b) H2 ⟨fun b h => .inl h, hB.trans st.keep, fun b h => h.imp id fun z => ?_⟩ (r.fk ⟨fun _ h => .inr h, fun _ _ _ h => h⟩)
              rcases st.new b z with q | q
              · exact q.elim
              · exact ⟨hB.free q.1, q.2⟩
            · have e : ¬ c = x := of_decide_eq_false e
              unfold hdl at p
              rw [if_neg e] at p
              exact ih (fun x h hm => hsub x h (List.mem_cons_of_mem _ hm)) p
        exact key hh (fun _ _ h => h) p
      · exact p.elim
end
end Pf
/-! Pf8: the greatest, the least of a list of data; sorted(set(..)); stars. -/
namespace Pf
open PySem PySem.Spec PyProof.Rows L2

/-! ### max, min over data that are read -/
section
variable {prog : Program} {w : World} {A : Around} {R : Result → Shared → Prop} {E : Value → Shared → Prop} {I : Addr} {fp wr : List Addr} {n : Nat} {P : Nat → Value → Prop} {St : Nat → Heap → Prop} {h0 : Heap}
def CmpAt (prog : Program) (w : World) (A : Around) (op : CmpOp) (h0 : Heap) (P : Nat → Value → Prop) (bt : Nat → Nat → Bool) : Prop :=
  ∀ (i j : Nat) (vi vj : Value) (s : Shared) (Q : Value → Shared → Prop) (E : Value → Shared → Prop), (∀ b o, h0.get? b = some o → s.heap.get? b = some o) → P i vi → P j vj → Q (.bool (bt i j)) s → wpAny (model prog w) A (richCompare op vi vj) Q E s

theorem max_loopA (W : Walks prog w A.in1 I fp wr n P St) (bt : Nat → Nat → Bool) (hcmp : CmpAt prog w A.in1 .Gt h0 P bt) (S : Addr) (hSf : S ∉ fp) (hS0 : h0.get? S = none) (hw0 : ∀ b ∈ wr, h0.get? b = none) :
    ∀ (k j : Nat) (s : Shared) (vb : Value) (c : Nat), n - (j + 1) = k → j + 1 ≤ n → St (j + 1) s.heap → P (argBest bt j) vb → (∀ b o, h0.get? b = some o → s.heap.get? b = some o) →
    s.heap.get? S = some { cls := .type "list", dict := none, data := .seq #[vb, vb] c, slots := #[] } →
    (∀ v h' tk, P (argBest bt (n - 1)) v → (∀ b o, b ∉ wr → b ≠ S → s.heap.get? b = some o → h'.get? b = some o) → R (.ok (.ret v)) { s with heap := h', toks := tk }) →
    codeAny (model prog w) A (.builtin "max.loop" ⟨[.ref I, .none, .ref S], []⟩) R s := by
  have hSw : S ∉ wr := fun h => hSf (W.sub _ h)
  have hname : (toString "max" ++ toString ".loop" : String) = "max.loop" := by decide
  have nw : ∀ {b : Addr} {o : Obj}, h0.get? b = some o → b ∉ wr := fun {b o} e hb => by rw [hw0 b hb] at e; cases e
  have nS : ∀ {b : Addr} {o : Obj}, h0.get? b = some o → b ≠ S := fun {b o} e hb => by rw [hb, hS0] at e; cases e
  intro k
  induction k with
  | zero =>
    intro j s vb c hk hj hst hPb kp hS hR
    have hin : j + 1 = n := by omega
    refine codeAny_builtin F.entry_max_loop ?_
    rw [Around.under_plainId F.plain_max_loop _]
    show wpAny _ A.in1 (seqItems? (.ref S) >>= _) _ _ s
    refine wpAny_bind (wpAny_seqItems hS rfl ?_)
    show wpAny _ A.in1 (tryCatch (pyNext (.ref I)) _ >>= _) _ _ s
    refine wpAny_bind (wpAny_tryCatch (W.done s _ _ (hin ▸ hst) fun h' tk hk' => ?_))
    have hS' := hk' S _ hSw hS
    show wpAny _ A.in1 (updateSeq S (fun _ => #[]) >>= _) _ _ _
    refine wpAny_bind ?_
    refine wpAny_updateSeq hS' rfl (wpAny_bind (wpAny_letGo (wpAny_pure ?_)))
    refine hR vb _ tk (by rw [← hin]; exact hPb) fun b o hbw hbS e => (Heap.get?_update_other _ _ (Ne.symm hbS)).trans (hk' b o hbw e)
  | succ k ih =>
    intro j s vb c hk hj hst hPb kp hS hR
    have hlt : j + 1 < n := by omega
    refine codeAny_builtin F.entry_max_loop ?_
    rw [Around.under_plainId F.plain_max_loop _]
    show wpAny _ A.in1 (seqItems? (.ref S) >>= _) _ _ s
    refine wpAny_bind (wpAny_seqItems hS rfl ?_)
    show wpAny _ A.in1 (tryCatch (pyNext (.ref I)) _ >>= _) _ _ s
    refine wpAny_bind (wpAny_tryCatch (W.item (j + 1) s _ _ hlt hst fun v h' tk hP hst' hk' => ?_))
    have hS' := hk' S _ hSw hS
    have kp' : ∀ b o, h0.get? b = some o → h'.get? b = some o := fun b o e => hk' b o (nw e) (kp b o e)
    show wpAny _ A.in1 (tryCatch (holding [v, v] (richCompare .Gt v vb >>= _)) _ >>= _) _ _ _
    refine wpAny_bind (wpAny_tryCatch (wpAny_holding (wpAny_bind (hcmp (j + 1) (argBest bt j) v vb _ _ _ kp' hP hPb ?_))))
    refine wpAny_bind (wpAny_holding (wpAny_truthy_bool ?_))
    refine wpAny_bind (wpAny_letGo (wpAny_pure ?_))
    cases hb : bt (j + 1) (argBest bt j) with
    | true =>
      simp only [if_true]
      refine wpAny_bind ?_
      refine wpAny_updateSeq hS' rfl (wpAny_bind (wpAny_letGo ?_))
      rw [hname]
      refine wpAny_pure ⟨plainId_quiet F.plain_max_loop _, ih (j + 1) _ v _ (by omega) hlt (W.frame _ _ _ hst' fun b hbf o e => ?_) (by simp only [argBest, hb, if_true]; exact hP) (fun b o e => ?_) (Heap.get?_update_self _ hS' rfl)
        fun v' h'' tk'' hP' hk'' => ?_⟩
      · exact (Heap.get?_update_other _ _ (fun h : S = b => hSf (by rw [h]; exact hbf))).trans e
      · exact (Heap.get?_update_other _ _ (Ne.symm (nS e))).trans (kp' b o e)
      · exact hR v' h'' tk'' hP' fun b o hbw hbS e => hk'' b o hbw hbS ((Heap.get?_update_other _ _ (Ne.symm hbS)).trans (hk' b o hbw e))
    | false =>
      simp only [Bool.false_eq_true, if_false]
      refine wpAny_bind (wpAny_letGo ?_)
      rw [hname]
      refine wpAny_pure ⟨plainId_quiet F.plain_max_loop _, ih (j + 1) _ vb c (by omega) hlt hst' (by simp only [argBest, hb, Bool.false_eq_true, if_false]; exact hPb) kp' hS' fun v' h'' tk'' hP' hk'' => ?_⟩
      exact hR v' h'' tk'' hP' fun b o hbw hbS e => hk'' b o hbw hbS (hk' b o hbw e)
theorem max_loop0 (W : Walks prog w A.in1 I fp wr n P St) (bt : Nat → Nat → Bool) (hcmp : CmpAt prog w A.in1 .Gt h0 P bt) (S : Addr) (hSf : S ∉ fp) (hS0 : h0.get? S = none) (hw0 : ∀ b ∈ wr, h0.get? b = none) (hn : 0 < n) {s : Shared} {c : Nat} (hst : St 0 s.heap)
    (kp : ∀ b o, h0.get? b = some o → s.heap.get? b = some o) (hS : s.heap.get? S = some { cls := .type "list", dict := none, data := .seq #[] c, slots := #[] })
    (hR : ∀ v h' tk, P (argBest bt (n - 1)) v → (∀ b o, b ∉ wr → b ≠ S → s.heap.get? b = some o → h'.get? b = some o) → R (.ok (.ret v)) { s with heap := h', toks := tk }) :
    codeAny (model prog w) A (.builtin "max.loop" ⟨[.ref I, .none, .ref S], []⟩) R s := by
  have hSw : S ∉ wr := fun h => hSf (W.sub _ h)
  have hname : (toString "max" ++ toString ".loop" : String) = "max.loop" := by decide
  have nw : ∀ {b : Addr} {o : Obj}, h0.get? b = some o → b ∉ wr := fun {b o} e hb => by rw [hw0 b hb] at e; cases e
  have nS : ∀ {b : Addr} {o : Obj}, h0.get? b = some o → b ≠ S := fun {b o} e hb => by rw [hb, hS0] at e; cases e
  refine codeAny_builtin F.entry_max_loop ?_
  rw [Around.under_plainId F.plain_max_loop _]
  show wpAny _ A.in1 (seqItems? (.ref S) >>= _) _ _ s
  refine wpAny_bind (wpAny_seqItems hS rfl ?_)
  show wpAny _ A.in1 (tryCatch (pyNext (.ref I)) _ >>= _) _ _ s
  refine wpAny_bind (wpAny_tryCatch (W.item 0 s _ _ hn hst fun v h' tk hP hst' hk' => ?_))
  have hS' := hk' S _ hSw hS
  have kp' : ∀ b o, h0.get? b = some o → h'.get? b = some o := fun b o e => hk' b o (nw e) (kp b o e)
  show wpAny _ A.in1 (updateSeq S (fun _ => #[v, v]) >>= _) _ _ _
  refine wpAny_bind ?_
  refine wpAny_updateSeq hS' rfl ?_
  rw [hname]
  refine wpAny_pure ⟨plainId_quiet F.plain_max_loop _, max_loopA (h0 := h0) W bt hcmp S hSf hS0 hw0 _ 0 _ v _ rfl hn (W.frame _ _ _ hst' fun b hbf o e => ?_) hP (fun b o e => ?_) (Heap.get?_update_self _ hS' rfl) fun v' h'' tk'' hP' hk'' => ?_⟩
  · exact (Heap.get?_update_other _ _ (fun h : S = b => hSf (by rw [h]; exact hbf))).trans e
  · exact (Heap.get?_update_other _ _ (Ne.symm (nS e))).trans (kp' b o e)
  · exact hR v' h'' tk'' hP' fun b o hbw hbS e => hk'' b o hbw hbS ((Heap.get?_update_other _ _ (Ne.symm hbS)).trans (hk' b o hbw e))
theorem call_maxA {s : Shared} {x : Value} {Q : Value → Shared → Prop}
    (h : wpAny (model prog w) A.in1 (pyIter x) (fun it s₂ => ∃ I fp wr n P St bt, it = .ref I ∧ Walks prog w A.in1 I fp wr n P St ∧ St 0 s₂.heap ∧ (∀ b ∈ fp, b < s₂.heap.objs.size) ∧ 0 < n ∧ CmpAt prog w A.in1 .Gt s.heap P bt ∧
      (∀ b o, s.heap.get? b = some o → s₂.heap.get? b = some o) ∧ (∀ b ∈ wr, s.heap.get? b = none) ∧
      ∀ v h' tk, P (argBest bt (n - 1)) v → (∀ b o, b ∉ wr → s₂.heap.get? b = some o → h'.get? b = some o) → Q v { s₂ with heap := h', toks := tk }) E s) :
    wpAny (model prog w) A (call (.builtin "max") [x]) Q E s := by
  have hname : (toString "max" ++ toString ".loop" : String) = "max.loop" := by decide
  refine call_function_tree F.kind_max F.plain_max F.entry_max (F.args_max1 _) ?_
  show wpAny _ A.in1 (Builtin.Builtins.bindParams "max" ["key", "default"] 0 ⟨[], []⟩ >>= _) _ _ s
  refine wpAny_bind (wpAny_of_eq (show Builtin.Builtins.bindParams "max" ["key", "default"] 0 ⟨[], []⟩ = pure [none, none] from rfl) ?_)
  refine wpAny_bind (wpAny_pure ?_)
  refine wpAny_bind (wpAny_mono h (fun it s₂ h₂ => ?_) fun _ _ e => e)
  obtain ⟨I, fp, wr, n, P, St, bt, rfl, W, hst, hfp, hn, hcmp, kp, hw0, hQ⟩ := h₂
  refine wpAny_bind (wpAny_newObj_type ?_)
  have hSf : s₂.heap.objs.size ∉ fp := fun hm => Nat.lt_irrefl _ (hfp _ hm)
  have hS0 : s.heap.get? s₂.heap.objs.size = none := by
    cases e : s.heap.get? s₂.heap.objs.size with
    | none => rfl
    | some o => exact absurd (Heap.lt_size (kp _ _ e)) (Nat.lt_irrefl _)
  rw [hname]
  refine wpAny_pure ⟨plainId_quiet F.plain_max_loop _, max_loop0 (h0 := s.heap) W bt hcmp s₂.heap.objs.size hSf hS0 hw0 hn (W.frame _ _ _ hst fun b _ o e => Heap.get?_push_of_some _ e) (fun b o e => Heap.get?_push_of_some _ (kp b o e)) (Heap.get?_push_size _ rfl) fun v h' tk hP hk => ?_⟩
  exact hQ v h' tk hP fun b o hbw e => hk b o hbw (Nat.ne_of_lt (Heap.lt_size e)) (Heap.get?_push_of_some _ e)

theorem min_loopA (W : Walks prog w A.in1 I fp wr n P St) (bt : Nat → Nat → Bool) (hcmp : CmpAt prog w A.in1 .Lt h0 P bt) (S : Addr) (hSf : S ∉ fp) (hS0 : h0.get? S = none) (hw0 : ∀ b ∈ wr, h0.get? b = none) :
    ∀ (k j : Nat) (s : Shared) (vb : Value) (c : Nat), n - (j + 1) = k → j + 1 ≤ n → St (j + 1) s.heap → P (argBest bt j) vb → (∀ b o, h0.get? b = some o → s.heap.get? b = some o) →
    s.heap.get? S = some { cls := .type "list", dict := none, data := .seq #[vb, vb] c, slots := #[] } →
    (∀ v h' tk, P (argBest bt (n - 1)) v → (∀ b o, b ∉ wr → b ≠ S → s.heap.get? b = some o → h'.get? b = some o) → R (.ok (.ret v)) { s with heap := h', toks := tk }) →
    codeAny (model prog w) A (.builtin "min.loop" ⟨[.ref I, .none, .ref S], []⟩) R s := by
  have hSw : S ∉ wr := fun h => hSf (W.sub _ h)
  have hname : (toString "min" ++ toString ".loop" : String) = "min.loop" := by decide
  have nw : ∀ {b : Addr} {o : Obj}, h0.get? b = some o → b ∉ wr := fun {b o} e hb => by rw [hw0 b hb] at e; cases e
  have nS : ∀ {b : Addr} {o : Obj}, h0.get? b = some o → b ≠ S := fun {b o} e hb => by rw [hb, hS0] at e; cases e
  intro k
  induction k with
  | zero =>
    intro j s vb c hk hj hst hPb kp hS hR
    have hin : j + 1 = n := by omega
    refine codeAny_builtin F.entry_min_loop ?_
    rw [Around.under_plainId F.plain_min_loop _]
    show wpAny _ A.in1 (seqItems? (.ref S) >>= _) _ _ s
    refine wpAny_bind (wpAny_seqItems hS rfl ?_)
    show wpAny _ A.in1 (tryCatch (pyNext (.ref I)) _ >>= _) _ _ s
    refine wpAny_bind (wpAny_tryCatch (W.done s _ _ (hin ▸ hst) fun h' tk hk' => ?_))
    have hS' := hk' S _ hSw hS
    show wpAny _ A.in1 (updateSeq S (fun _ => #[]) >>= _) _ _ _
    refine wpAny_bind ?_
    refine wpAny_updateSeq hS' rfl (wpAny_bind (wpAny_letGo (wpAny_pure ?_)))
    refine hR vb _ tk (by rw [← hin]; exact hPb) fun b o hbw hbS e => (Heap.get?_update_other _ _ (Ne.symm hbS)).trans (hk' b o hbw e)
  | succ k ih =>
    intro j s vb c hk hj hst hPb kp hS hR
    have hlt : j + 1 < n := by omega
    refine codeAny_builtin F.entry_min_loop ?_
    rw [Around.under_plainId F.plain_min_loop _]
    show wpAny _ A.in1 (seqItems? (.ref S) >>= _) _ _ s
    refine wpAny_bind (wpAny_seqItems hS rfl ?_)
    show wpAny _ A.in1 (tryCatch (pyNext (.ref I)) _ >>= _) _ _ s
    refine wpAny_bind (wpAny_tryCatch (W.item (j + 1) s _ _ hlt hst fun v h' tk hP hst' hk' => ?_))
    have hS' := hk' S _ hSw hS
    have kp' : ∀ b o, h0.get? b = some o → h'.get? b = some o := fun b o e => hk' b o (nw e) (kp b o e)
    show wpAny _ A.in1 (tryCatch (holding [v, v] (richCompare .Lt v vb >>= _)) _ >>= _) _ _ _
    refine wpAny_bind (wpAny_tryCatch (wpAny_holding (wpAny_bind (hcmp (j + 1) (argBest bt j) v vb _ _ _ kp' hP hPb ?_))))
    refine wpAny_bind (wpAny_holding (wpAny_truthy_bool ?_))
    refine wpAny_bind (wpAny_letGo (wpAny_pure ?_))
    cases hb : bt (j + 1) (argBest bt j) with
    | true =>
      simp only [if_true]
      refine wpAny_bind ?_
      refine wpAny_updateSeq hS' rfl (wpAny_bind (wpAny_letGo ?_))
      rw [hname]
      refine wpAny_pure ⟨plainId_quiet F.plain_min_loop _, ih (j + 1) _ v _ (by omega) hlt (W.frame _ _ _ hst' fun b hbf o e => ?_) (by simp only [argBest, hb, if_true]; exact hP) (fun b o e => ?_) (Heap.get?_update_self _ hS' rfl)
        fun v' h'' tk'' hP' hk'' => ?_⟩
      · exact (Heap.get?_update_other _ _ (fun h : S = b => hSf (by rw [h]; exact hbf))).trans e
      · exact (Heap.get?_update_other _ _ (Ne.symm (nS e))).trans (kp' b o e)
      · exact hR v' h'' tk'' hP' fun b o hbw hbS e => hk'' b o hbw hbS ((Heap.get?_update_other _ _ (Ne.symm hbS)).trans (hk' b o hbw e))
    | false =>
      simp only [Bool.false_eq_true, if_false]
      refine wpAny_bind (wpAny_letGo ?_)
      rw [hname]
      refine wpAny_pure ⟨plainId_quiet F.plain_min_loop _, ih (j + 1) _ vb c (by omega) hlt hst' (by simp only [argBest, hb, Bool.false_eq_true, if_false]; exact hPb) kp' hS' fun v' h'' tk'' hP' hk'' => ?_⟩
      exact hR v' h'' tk'' hP' fun b o hbw hbS e => hk'' b o hbw hbS (hk' b o hbw e)
theorem min_loop0 (W : Walks prog w A.in1 I fp wr n P St) (bt : Nat → Nat → Bool) (hcmp : CmpAt prog w A.in1 .Lt h0 P bt) (S : Addr) (hSf : S ∉ fp) (hS0 : h0.get? S = none) (hw0 : ∀ b ∈ wr, h0.get? b = none) (hn : 0 < n) {s : Shared} {c : Nat} (hst : St 0 s.heap)
    (kp : ∀ b o, h0.get? b = some o → s.heap.get? b = some o) (hS : s.heap.get? S = some { cls := .type "list", dict := none, data := .seq #[] c, slots := #[] })
    (hR : ∀ v h' tk, P (argBest bt (n - 1)) v → (∀ b o, b ∉ wr → b ≠ S → s.heap.get? b = some o → h'.get? b = some o) → R (.ok (.ret v)) { s with heap := h', toks := tk }) :
    codeAny (model prog w) A (.builtin "min.loop" ⟨[.ref I, .none, .ref S], []⟩) R s := by
  have hSw : S ∉ wr := fun h => hSf (W.sub _ h)
  have hname : (toString "min" ++ toString ".loop" : String) = "min.loop" := by decide
  have nw : ∀ {b : Addr} {o : Obj}, h0.get? b = some o → b ∉ wr := fun {b o} e hb => by rw [hw0 b hb] at e; cases e
  have nS : ∀ {b : Addr} {o : Obj}, h0.get? b = some o → b ≠ S := fun {b o} e hb => by rw [hb, hS0] at e; cases e
  refine codeAny_builtin F.entry_min_loop ?_
  rw [Around.under_plainId F.plain_min_loop _]
  show wpAny _ A.in1 (seqItems? (.ref S) >>= _) _ _ s
  refine wpAny_bind (wpAny_seqItems hS rfl ?_)
  show wpAny _ A.in1 (tryCatch (pyNext (.ref I)) _ >>= _) _ _ s
  refine wpAny_bind (wpAny_tryCatch (W.item 0 s _ _ hn hst fun v h' tk hP hst' hk' => ?_))
  have hS' := hk' S _ hSw hS
  have kp' : ∀ b o, h0.get? b = some o → h'.get? b = some o := fun b o e => hk' b o (nw e) (kp b o e)
  show wpAny _ A.in1 (updateSeq S (fun _ => #[v, v]) >>= _) _ _ _
  refine wpAny_bind ?_
  refine wpAny_updateSeq hS' rfl ?_
  rw [hname]
  refine wpAny_pure ⟨plainId_quiet F.plain_min_loop _, min_loopA (h0 := h0) W bt hcmp S hSf hS0 hw0 _ 0 _ v _ rfl hn (W.frame _ _ _ hst' fun b hbf o e => ?_) hP (fun b o e => ?_) (Heap.get?_update_self _ hS' rfl) fun v' h'' tk'' hP' hk'' => ?_⟩
  · exact (Heap.get?_update_other _ _ (fun h : S = b => hSf (by rw [h]; exact hbf))).trans e
  · exact (Heap.get?_update_other _ _ (Ne.symm (nS e))).trans (kp' b o e)
  · exact hR v' h'' tk'' hP' fun b o hbw hbS e => hk'' b o hbw hbS ((Heap.get?_update_other _ _ (Ne.symm hbS)).trans (hk' b o hbw e))
theorem call_minA {s : Shared} {x : Value} {Q : Value → Shared → Prop}
    (h : wpAny (model prog w) A.in1 (pyIter x) (fun it s₂ => ∃ I fp wr n P St bt, it = .ref I ∧ Walks prog w A.in1 I fp wr n P St ∧ St 0 s₂.heap ∧ (∀ b ∈ fp, b < s₂.heap.objs.size) ∧ 0 < n ∧ CmpAt prog w A.in1 .Lt s.heap P bt ∧
      (∀ b o, s.heap.get? b = some o → s₂.heap.get? b = some o) ∧ (∀ b ∈ wr, s.heap.get? b = none) ∧
      ∀ v h' tk, P (argBest bt (n - 1)) v → (∀ b o, b ∉ wr → s₂.heap.get? b = some o → h'.get? b = some o) → Q v { s₂ with heap := h', toks := tk }) E s) :
    wpAny (model prog w) A (call (.builtin "min") [x]) Q E s := by
  have hname : (toString "min" ++ toString ".loop" : String) = "min.loop" := by decide
  refine call_function_tree F.kind_min F.plain_min F.entry_min (F.args_min1 _) ?_
  show wpAny _ A.in1 (Builtin.Builtins.bindParams "min" ["key", "default"] 0 ⟨[], []⟩ >>= _) _ _ s
  refine wpAny_bind (wpAny_of_eq (show Builtin.Builtins.bindParams "min" ["key", "default"] 0 ⟨[], []⟩ = pure [none, none] from rfl) ?_)
  refine wpAny_bind (wpAny_pure ?_)
  refine wpAny_bind (wpAny_mono h (fun it s₂ h₂ => ?_) fun _ _ e => e)
  obtain ⟨I, fp, wr, n, P, St, bt, rfl, W, hst, hfp, hn, hcmp, kp, hw0, hQ⟩ := h₂
  refine wpAny_bind (wpAny_newObj_type ?_)
  have hSf : s₂.heap.objs.size ∉ fp := fun hm => Nat.lt_irrefl _ (hfp _ hm)
  have hS0 : s.heap.get? s₂.heap.objs.size = none := by
    cases e : s.heap.get? s₂.heap.objs.size with
    | none => rfl
    | some o => exact absurd (Heap.lt_size (kp _ _ e)) (Nat.lt_irrefl _)
  rw [hname]
  refine wpAny_pure ⟨plainId_quiet F.plain_min_loop _, min_loop0 (h0 := s.heap) W bt hcmp s₂.heap.objs.size hSf hS0 hw0 hn (W.frame _ _ _ hst fun b _ o e => Heap.get?_push_of_some _ e) (fun b o e => Heap.get?_push_of_some _ (kp b o e)) (Heap.get?_push_size _ rfl) fun v h' tk hP hk => ?_⟩
  exact hQ v h' tk hP fun b o hbw e => hk b o hbw (Nat.ne_of_lt (Heap.lt_size e)) (Heap.get?_push_of_some _ e)

end


/-- the place of the best: later ones only if better -/
def okCmp (ds : List PyData) : Bool := ds.all (fun a => ds.all (fun b => PySem.W.alike a b) && SeqAt.shaped a && !isNo a)
def maxTD : List PyData → Option PyData
  | [.list ds] => if okCmp ds = true ∧ ds.length ≤ 16777216 then ds[argBest (fun i j => PySem.W.dataLt (ds.getD j .none) (ds.getD i .none)) (ds.length - 1)]? else none
  | _ => none
def minTD : List PyData → Option PyData
  | [.list ds] => if okCmp ds = true ∧ ds.length ≤ 16777216 then ds[argBest (fun i j => PySem.W.dataLt (ds.getD i .none) (ds.getD j .none)) (ds.length - 1)]? else none
  | _ => none
def rMaxT (K : PySem.W.Frag) : List V → Hp → VK → Prop := fun vs H Q => ∃ (a : Addr) (xs : List V) (ds : List PyData), vs = [.ref a] ∧ SqL K H a xs ∧ DpAll K H xs ds ∧ okCmp ds = true ∧ 0 < ds.length ∧
  ∀ x, xs[argBest (fun i j => PySem.W.dataLt (ds.getD j .none) (ds.getD i .none)) (ds.length - 1)]? = some x → Q x H
def rMinT (K : PySem.W.Frag) : List V → Hp → VK → Prop := fun vs H Q => ∃ (a : Addr) (xs : List V) (ds : List PyData), vs = [.ref a] ∧ SqL K H a xs ∧ DpAll K H xs ds ∧ okCmp ds = true ∧ 0 < ds.length ∧
  ∀ x, xs[argBest (fun i j => PySem.W.dataLt (ds.getD i .none) (ds.getD j .none)) (ds.length - 1)]? = some x → Q x H
theorem _root_.L2.DpAll.at' {K : PySem.W.Frag} {H : Hp} : ∀ {xs : List V} {ds : List PyData} {i : Nat} {x : V}, DpAll K H xs ds → xs[i]? = some x → ∃ d, ds[i]? = some d ∧ Dp K H x d
  | _, _, _, _, .nil, e => by simp at e
  | _, _, 0, _, .cons a b, e => by simp at e; subst e; exact ⟨_, rfl, a⟩
  | _, _, i + 1, _, .cons a b, e => by
    have := L2.DpAll.at' (i := i) b (by simpa using e)
    simpa using this
theorem _root_.L2.DpAll.len' {K : PySem.W.Frag} {H : Hp} : ∀ {xs : List V} {ds : List PyData}, DpAll K H xs ds → xs.length = ds.length
  | _, _, .nil => rfl
  | _, _, .cons a b => by simp [L2.DpAll.len' b]
theorem vals_right : ∀ {xs : List V} {us : List Value} {i : Nat} {u : Value}, Vals xs us → us[i]? = some u → ∃ x, xs[i]? = some x ∧ RelV x u
  | _, _, _, _, .nil, e => by simp at e
  | _, _, 0, _, .cons a b, e => by simp at e; subst e; exact ⟨_, rfl, a⟩
  | _, _, i + 1, _, .cons a b, e => by
    have := vals_right (i := i) b (by simpa using e)
    simpa using this
theorem argBest_le (bt : Nat → Nat → Bool) : ∀ k, argBest bt k ≤ k
  | 0 => Nat.le_refl _
  | k + 1 => by
    unfold argBest
    split
    · exact Nat.le_refl _
    · exact Nat.le_succ_of_le (argBest_le bt k)
theorem okCmp_at {ds : List PyData} (h : okCmp ds = true) {a b : PyData} (ha : a ∈ ds) (hb : b ∈ ds) : PySem.W.alike a b = true ∧ SeqAt.shaped a = true ∧ a ≠ .none := by
  have h1 := List.all_eq_true.mp h a ha
  simp only [Bool.and_eq_true] at h1
  refine ⟨List.all_eq_true.mp h1.1.1 b hb, h1.1.2, fun e => ?_⟩
  subst e
  have := h1.2
  simp [isNo] at this
section
variable {X : Cx}

theorem cr_maxT (hc : X.calm = true) (hu : X.A.units + 66 < cLine) : CallR X (.builtin "max") (rMaxT X.K) := by
  intro pins s σ H vs us Q I r h
  obtain ⟨a, xs, ds, rfl, hs, hd, hok, hne, q⟩ := h
  obtain ⟨its, rv, hl, hz⟩ := I.list hs
  have hlen := rv.length
  have hlen2 := hd.len'
  rw [Vals.ref1 r]
  refine call_maxA (iter_anyList hl.isList fun s₂ e st hfp hlI => ?_)
  subst e
  refine ⟨_, _, _, _, _, _, (fun i j => PySem.W.dataLt (ds.getD j .none) (ds.getD i .none)), rfl, Walks.list (A := X.A.in1) (I.ok.hd hc) _ a hlI its.toArray, st, hfp, by simp; omega, fun i j vi vj s' Q' E' kp hi hj hq => ?_, (fun b o e => Heap.get?_push_of_some _ e), fun b hb => ?_, fun v h' tk hP hk => ?_⟩
  · have hi' : its[i]? = some vi := by simpa using hi
    have hj' : its[j]? = some vj := by simpa using hj
    obtain ⟨x, e1, r1⟩ := vals_right rv hi'
    obtain ⟨y, e2, r2⟩ := vals_right rv hj'
    obtain ⟨dx, f1, p1⟩ := hd.at' e1
    obtain ⟨dy, f2, p2⟩ := hd.at' e2
    obtain ⟨as, g1⟩ := Dp.reads I dx x vi p1 r1
    obtain ⟨bs, g2⟩ := Dp.reads I dy y vj p2 r2
    obtain ⟨al, sh, nn⟩ := okCmp_at hok (List.mem_of_getElem? f1) (List.mem_of_getElem? f2)
    have q1 : ds.getD i .none = dx := by rw [List.getD_eq_getElem?_getD, f1]; rfl
    have q2 : ds.getD j .none = dy := by rw [List.getD_eq_getElem?_getD, f2]; rfl
    have hdep : dx.depth ≤ 64 := by
      unfold SeqAt.shaped at sh
      simp only [Bool.and_eq_true, decide_eq_true_eq] at sh
      exact sh.2
    refine PySem.W.gt_data (PyProof.Rows.Reads.keeps kp g1) (PyProof.Rows.Reads.keeps kp g2) al nn ?_ ?_
    · show X.A.units + 1 + min dx.depth dy.depth < cLine
      omega
    · simp only [q1, q2] at hq
      exact hq
  · rcases List.mem_singleton.mp hb with rfl
    cases e : s.heap.get? s.heap.objs.size with
    | none => rfl
    | some o => exact absurd (Heap.lt_size e) (Nat.lt_irrefl _)
  · have hv : its[argBest (fun i j => PySem.W.dataLt (ds.getD j .none) (ds.getD i .none)) (ds.length - 1)]? = some v := by
      have : its.length = ds.length := by omega
      simpa [this] using hP
    obtain ⟨x, e1, r1⟩ := vals_right rv hv
    exact ⟨x, H, I.kept (old_kept hk), r1, q x e1⟩

theorem cr_minT (hc : X.calm = true) (hu : X.A.units + 66 < cLine) : CallR X (.builtin "min") (rMinT X.K) := by
  intro pins s σ H vs us Q I r h
  obtain ⟨a, xs, ds, rfl, hs, hd, hok, hne, q⟩ := h
  obtain ⟨its, rv, hl, hz⟩ := I.list hs
  have hlen := rv.length
  have hlen2 := hd.len'
  rw [Vals.ref1 r]
  refine call_minA (iter_anyList hl.isList fun s₂ e st hfp hlI => ?_)
  subst e
  refine ⟨_, _, _, _, _, _, (fun i j => PySem.W.dataLt (ds.getD i .none) (ds.getD j .none)), rfl, Walks.list (A := X.A.in1) (I.ok.hd hc) _ a hlI its.toArray, st, hfp, by simp; omega, fun i j vi vj s' Q' E' kp hi hj hq => ?_, (fun b o e => Heap.get?_push_of_some _ e), fun b hb => ?_, fun v h' tk hP hk => ?_⟩
  · have hi' : its[i]? = some vi := by simpa using hi
    have hj' : its[j]? = some vj := by simpa using hj
    obtain ⟨x, e1, r1⟩ := vals_right rv hi'
    obtain ⟨y, e2, r2⟩ := vals_right rv hj'
    obtain ⟨dx, f1, p1⟩ := hd.at' e1
    obtain ⟨dy, f2, p2⟩ := hd.at' e2
    obtain ⟨as, g1⟩ := Dp.reads I dx x vi p1 r1
    obtain ⟨bs, g2⟩ := Dp.reads I dy y vj p2 r2
    obtain ⟨al, sh, nn⟩ := okCmp_at hok (List.mem_of_getElem? f1) (List.mem_of_getElem? f2)
    have q1 : ds.getD i .none = dx := by rw [List.getD_eq_getElem?_getD, f1]; rfl
    have q2 : ds.getD j .none = dy := by rw [List.getD_eq_getElem?_getD, f2]; rfl
    have hdep : dx.depth ≤ 64 := by
      unfold SeqAt.shaped at sh
      simp only [Bool.and_eq_true, decide_eq_true_eq] at sh
      exact sh.2
    refine PySem.W.lt_data (PyProof.Rows.Reads.keeps kp g1) (PyProof.Rows.Reads.keeps kp g2) al nn ?_ ?_
    · show X.A.units + 1 + min dx.depth dy.depth < cLine
      omega
    · simp only [q1, q2] at hq
      exact hq
  · rcases List.mem_singleton.mp hb with rfl
    cases e : s.heap.get? s.heap.objs.size with
    | none => rfl
    | some o => exact absurd (Heap.lt_size e) (Nat.lt_irrefl _)
  · have hv : its[argBest (fun i j => PySem.W.dataLt (ds.getD i .none) (ds.getD j .none)) (ds.length - 1)]? = some v := by
      have : its.length = ds.length := by omega
      simpa [this] using hP
    obtain ⟨x, e1, r1⟩ := vals_right rv hv
    exact ⟨x, H, I.kept (old_kept hk), r1, q x e1⟩

end
section
variable {K : PySem.W.Frag}
theorem shaped_all {ds : List PyData} (h : okCmp ds = true) : PyData.canLayAll0 ds = true := by
  have key : ∀ l : List PyData, (∀ a ∈ l, a.canLay0 = true) → PyData.canLayAll0 l = true := by
    intro l
    induction l with
    | nil => intro _; rfl
    | cons a l ih =>
      intro h
      simp only [PyData.canLayAll0, Bool.and_eq_true]
      exact ⟨h a (List.mem_cons_self ..), ih fun b hb => h b (List.mem_cons_of_mem _ hb)⟩
  exact key ds fun a ha => SeqAt.canLay_of_shaped (okCmp_at h ha ha).2.1

theorem sem_maxT : SemC K (rMaxT K) maxTD := by
  intro F H vs ds z Q rs hs h
  unfold maxTD at hs
  split at hs
  · rename_i ds
    split at hs
    · rename_i hc
      obtain ⟨v, rfl, rv⟩ := rs.one
      obtain ⟨a, xs, rfl, ha, r⟩ := rv.list
      have hlt := (List.getElem?_eq_some_iff.mp hs).1
      refine ⟨a, xs, ds, rfl, SqL.of ha, Rps.dp ds xs (shaped_all hc.1) r, hc.1, by omega, fun x hx => ?_⟩
      obtain ⟨v, h1, h2⟩ := r.get hs
      rw [h1] at hx
      cases hx
      exact h F H _ Stp.refl h2
    · cases hs
  · cases hs

theorem sem_minT : SemC K (rMinT K) minTD := by
  intro F H vs ds z Q rs hs h
  unfold minTD at hs
  split at hs
  · rename_i ds
    split at hs
    · rename_i hc
      obtain ⟨v, rfl, rv⟩ := rs.one
      obtain ⟨a, xs, rfl, ha, r⟩ := rv.list
      have hlt := (List.getElem?_eq_some_iff.mp hs).1
      refine ⟨a, xs, ds, rfl, SqL.of ha, Rps.dp ds xs (shaped_all hc.1) r, hc.1, by omega, fun x hx => ?_⟩
      obtain ⟨v, h1, h2⟩ := r.get hs
      rw [h1] at hx
      cases hx
      exact h F H _ Stp.refl h2
    · cases hs
  · cases hs

end
end Pf
/-! Pf9: set(list), sorted(set(list)). -/
namespace Pf
open PySem PySem.Spec PyProof.Rows L2

theorem setR_congr {w : World} {h : Heap} {a : Addr} {S S' : Int → Bool} {n n' : Nat} (hS : SetR w h a S n) (e : ∀ k, S k = S' k) (en : n = n') : SetR w h a S' n' := by
  have : S = S' := funext e
  subst this; subst en; exact hS
section
variable {prog : Program} {w : World} {A : Around} {R : Result → Shared → Prop} {I : Addr} {fp wr : List Addr} {G : Array GenState → Array GenState → Prop} {n : Nat} {P : Nat → Value → Prop} {St : Nat → Shared → Prop}
theorem setR_update_loop (W : WalksS prog w A.in1 I fp wr G n P St) (S : Addr) (hSf : S ∉ fp)
    (val : Nat → Int) (hval : ∀ i v, P i v → ∃ t, v = .int (val i) t) (hb : n + 1 < scanBound) :
    ∀ (k i : Nat) (s : Shared), n - i = k → i ≤ n → St i s →
      SetR w s.heap S (fun k' => (firstMet val i).any (· == k')) (firstMet val i).length →
      (∀ s', Moved (S :: wr) G s s' → SetR w s'.heap S (fun k' => (firstMet val n).any (· == k')) (firstMet val n).length → R (.ok (.ret .none)) s') →
      codeAny (model prog w) A (.builtin "set.update.loop" ⟨[.ref S, .ref I], []⟩) R s := by
  have hSw : S ∉ wr := fun h => hSf (W.sub _ h)
  have hsub : ∀ b ∈ wr, b ∈ S :: wr := fun b hb => List.mem_cons_of_mem _ hb
  intro k
  induction k with
  | zero =>
    intro i s hk hi hst hS hR
    have hin : i = n := by omega
    subst hin
    refine codeAny_builtin F.entry_set_update_loop ?_
    rw [Around.under_plainId F.plain_set_update_loop _]
    show wpAny _ A.in1 (pyNext (.ref I) >>= _) _ _ s
    refine wpAny_bind (W.done s _ _ hst fun s' hm => ?_)
    show wpAny _ A.in1 (ret Value.none) _ _ s'
    exact wpAny_pure (hR s' (hm.mono hsub) (by
      exact hS.at fun o ho => hm.heap S _ hSw ho))
  | succ k ih =>
    intro i s hk hi hst hS hR
    have hlt : i < n := by omega
    refine codeAny_builtin F.entry_set_update_loop ?_
    rw [Around.under_plainId F.plain_set_update_loop _]
    show wpAny _ A.in1 (pyNext (.ref I) >>= _) _ _ s
    refine wpAny_bind (W.item i s _ _ hlt hst fun v s' hP hst' hm => ?_)
    obtain ⟨t, rfl⟩ := hval i v hP
    have hS' : SetR w s'.heap S (fun k' => (firstMet val i).any (· == k')) (firstMet val i).length := hS.at fun o ho => hm.heap S _ hSw ho
    show wpAny _ A.in1 (holding [Value.int (val i) t] (setAdd S (.int (val i) t)) >>= _) _ _ s'
    refine wpAny_bind (wpAny_holding ?_)
    unfold setAdd
    refine wpAny_holding ?_
    refine wpAny_bind ((intKind prog w).pyHash (k := val i) (intKind_is _ _ _ _) ?_)
    have hroom : (firstMet val i).length + 1 < scanBound := by have := firstMet_length_le val i; omega
    refine setR_add_hashed (s := { s' with toks := s'.toks + 1 }) hS' hroom fun h' hsb hS2 => ?_

    have hSi : SetR w h' S (fun k' => (firstMet val (i + 1)).any (· == k')) (firstMet val (i + 1)).length :=
      setR_congr hS2 (fun k' => by rw [firstMet_succ, step_any]) (by rw [firstMet_succ, step_length])
    refine wpAny_pure ⟨plainId_quiet F.plain_set_update_loop _, ih (i + 1) _ (by omega) hlt (W.frame _ s' _ _ hst' (Nat.le_succ _) fun b hb o e => ?_) hSi fun s'' hm'' hS'' => ?_⟩
    · rw [hsb.2 b (fun h : b = S => hSf (by rw [← h]; exact hb))]; exact e
    · refine hR s'' (Moved.trans W.gtrans ((hm.mono hsub).then_heap (Nat.le_succ _) fun b o hb e => ?_) hm'') hS''
      rw [hsb.2 b (fun h : b = S => hb (by rw [h]; exact List.mem_cons_self))]; exact e
end
section
variable {prog : Program} {w : World} {A : Around} {E : Value → Shared → Prop} {s : Shared}
theorem code_setR_new_1 (a : Value) {Q₁ : Value → Shared → Prop}
    (h : Q₁ (.ref s.heap.objs.size) { s with heap := s.heap.push { cls := .type "set", dict := none, data := .set #[] 0 (.fresh 0 0 (!w.params.followText "set-order")) } }) :
    codeAny (model prog w) A (.call (.builtin "set.__new__") ⟨[.type "set", a], []⟩) (wants Q₁ E) s := by
  refine codeAny_of_tree ?_
  show wpAny _ A.in1 (do checkBuiltinCall "set.__new__" ⟨[.type "set", a], []⟩; again (.builtin "set.__new__" ⟨[.type "set", a], []⟩)) _ _ s
  refine wpAny_bind (wpAny_of_eq (F.newCall_set_1 a) (wpAny_pure ⟨plainId_quiet F.plain_set_new _, codeAny_builtin F.entry_set_new ?_⟩))
  rw [Around.under_plainId F.plain_set_new _]
  unfold Builtin.«set.__new__» Builtin.Frozenset.newClass
  have hsub := sub_set_self
  obtain ⟨hp, g, d, tk, os⟩ := s
  dsimp only
  wp_walk
  refine wpAny_askSetting (wpAny_pure ?_)
  dsimp only
  simp only [newObj]
  refine wpAny_bind (wpAny_alloc (wpAny_pure ?_))
  exact wpAny_pure h

theorem call_setR_list {l : Addr} {items : Array Value} {ns : List Int} {Q : Value → Shared → Prop}
    (hh : A.handled = none) (hl : s.heap.IsList l items) (hi : PyProof.Rows.IntsAre items.toList ns) (hb : items.size + 1 < scanBound)
    (h : ∀ (h' : Heap) (tk : Nat), SetR w h' s.heap.objs.size (fun k' => (PyProof.Rows.firstMet (fun i => ns.getD i 0) items.size).any (· == k')) (PyProof.Rows.firstMet (fun i => ns.getD i 0) items.size).length →
      (∀ b o, b < s.heap.objs.size → s.heap.get? b = some o → h'.get? b = some o) → Q (.ref s.heap.objs.size) { s with heap := h', toks := tk }) :
    wpAny (model prog w) A (call (.type "set") [.ref l]) Q E s := by
  obtain ⟨c, tl, hmro⟩ := F.called_set.mro
  have hmade := F.called_set.made
  have hsub := F.called_set.sub
  refine wpAny_call (codeAny_of_tree ?_)
  show wpAny _ _ (callAny (.type "set") _) _ _ _
  refine wpAny_pure ⟨Code.quiet_builtin _ (by decide +kernel), codeAny_builtin F.entry_type_call ?_⟩
  rw [Around.under_plain (weight_type_call_type "set" [.ref l] []) rfl]
  have h1 := F.called_set.notType
  have h2 := F.called_set.canCreate
  have hct := F.typeCall_set_1 (.ref l)
  repeat (any_goals (first | assumption | wp_step))

  refine codeAny_mono (code_setR_new_1 (.ref l) (E := E) (Q₁ := fun obj s₁ => ∃ led : Bool, led = (!w.params.followText "set-order") ∧ obj = .ref s.heap.objs.size ∧ s₁ = { s with heap := s.heap.push { cls := .type "set", dict := none, data := .set #[] 0 (.fresh 0 0 led) } }) ⟨_, rfl, rfl, rfl⟩) fun r s₁ hr => ?_
  cases r with
  | error e => exact hr
  | ok fl =>
    cases fl with
    | ret obj =>
      obtain ⟨led, hled, rfl, rfl⟩ := hr
      have hS : (s.heap.push { cls := .type "set", dict := none, data := .set #[] 0 (.fresh 0 0 led) }).get? s.heap.objs.size = some { cls := .type "set", dict := none, data := .set #[] 0 (.fresh 0 0 led) } := Heap.get?_push_size _ rfl
      have hT : Shared.TypeIs { s with heap := s.heap.push { cls := .type "set", dict := none, data := .set #[] 0 (.fresh 0 0 led) } } (.ref s.heap.objs.size) "set" := ⟨_, hS, rfl⟩
      have hli := F.called_set.init.lookup
      have hbi := F.called_set.init.bind (.ref s.heap.objs.size)
      repeat (any_goals (first | assumption | wp_step))

      refine codeAny_mono (codeAny_call_builtin (R := wants (fun r s₂ => r = .none ∧ ∃ h' tk, s₂ = { s with heap := h', toks := tk } ∧
          SetR w h' s.heap.objs.size (fun k' => (PyProof.Rows.firstMet (fun i => ns.getD i 0) items.size).any (· == k')) (PyProof.Rows.firstMet (fun i => ns.getD i 0) items.size).length ∧
          (∀ b o, b < s.heap.objs.size → s.heap.get? b = some o → h'.get? b = some o)) E) F.called_set.init.plain F.entry_set_init (check_set_init_1 hT ?_)) fun r₂ s₂ hr₂ => ?_
      · obtain ⟨ol, hol, hcl, nl, hdl⟩ := hl
        obtain ⟨ocls, odict, odata, oslots⟩ := ol
        simp only at hcl hdl
        subst hcl; subst hdl
        have hol' : (s.heap.push { cls := .type "set", dict := none, data := .set #[] 0 (.fresh 0 0 led) }).get? l = some { cls := .type "list", dict := odict, data := .seq items nl, slots := oslots } := Heap.get?_push_of_some _ hol
        have hsls := F.sub_list_set
        have hslf := F.sub_list_frozenset
        have hne : (Value.type "list" == Value.type "dict") = false := by decide
        have hl1 : (s.heap.push { cls := .type "set", dict := none, data := .set #[] 0 (.fresh 0 0 led) }).IsList l items := ⟨_, hol', rfl, nl, rfl⟩
        unfold Builtin.«set.__init__» noKeywords Builtin.Frozenset.updateFrom
        generalize hPI : pyIter = PI
        wp_walk
        subst hPI

        refine wpAny_pyIter_list hl1 ?_
        refine wpAny_bind (wpAny_runValue ?_)
        have hlS : l < s.heap.objs.size := Heap.lt_size hol
        have hh3 : A.in1.in1.in1.handled = none := by simp [hh]
        have hneI : l ≠ (s.heap.push { cls := .type "set", dict := none, data := .set #[] 0 (.fresh 0 0 led) }).objs.size := by
          rw [Heap.size_push]; exact Nat.ne_of_lt (Nat.lt_succ_of_lt hlS)
        have hSf : s.heap.objs.size ∉ [(s.heap.push { cls := .type "set", dict := none, data := .set #[] 0 (.fresh 0 0 led) }).objs.size, l] := by
          rw [Heap.size_push]; simp only [List.mem_cons, List.mem_singleton, List.not_mem_nil, or_false, not_or]
          exact ⟨Nat.ne_of_lt (Nat.lt_succ_self _), Nat.ne_of_gt hlS⟩
        have hval : ∀ (i : Nat) (v : Value), items[i]? = some v → ∃ t, v = .int ((fun i => ns.getD i 0) i) t := fun i v hv =>
          PyProof.Rows.IntsAre.int_at hi i v (by rw [Array.getElem?_toList]; exact hv)
        refine setR_update_loop ((Walks.list hh3 _ l hneI items).toS) s.heap.objs.size
          hSf (fun i => ns.getD i 0) hval hb (items.size - 0) 0 _ (by omega) (Nat.zero_le _)
          ⟨⟨_, Heap.get?_push_size _ rfl, rfl, rfl⟩, (hl1.push _)⟩ ?hS0 ?hR
        case hS0 =>
          have hget : ((s.heap.push { cls := .type "set", dict := none, data := .set #[] 0 (.fresh 0 0 led) }).push { cls := .type "list_iterator", data := .fields #[.ref l, .int 0 0] }).get? s.heap.objs.size
              = some { cls := .type "set", dict := none, data := .set #[] 0 (.fresh 0 0 led) } := Heap.get?_push_of_some _ hS
          subst hled
          exact setR_congr ((setR_fresh w).at fun o ho => Heap.get?_push_of_some _ ho) (fun _ => rfl) rfl
        case hR =>
          intro s' hm hS'
          obtain ⟨h', g', d', tk', os'⟩ := s'
          have eg : g' = s.gens := hm.gens
          have ed : d' = s.drawn := hm.drawn
          have eo : os' = s.os := hm.os
          subst eg; subst ed; subst eo
          show wpAny _ _ _ _ _ _
          refine wpAny_pure ?_
          show wpAny _ _ (ret Value.none) _ _ _
          refine wpAny_pure ⟨rfl, h', tk', rfl, hS', fun b o hb e => ?_⟩
          have hb1 : b ≠ s.heap.objs.size := Nat.ne_of_lt hb
          have hb2 : b ≠ (s.heap.push { cls := .type "set", dict := none, data := .set #[] 0 (.fresh 0 0 led) }).objs.size := by
            rw [Heap.size_push]; exact Nat.ne_of_lt (Nat.lt_succ_of_lt hb)
          exact hm.heap b o (by simp only [List.mem_cons, List.mem_singleton, List.not_mem_nil, or_false, not_or]; exact ⟨hb1, hb2⟩) (Heap.get?_push_of_some _ (Heap.get?_push_of_some _ e))

      · cases r₂ with
        | error e => exact hr₂
        | ok fl₂ =>
          cases fl₂ with
          | ret r =>
            obtain ⟨rfl, h', tk, rfl, hS', hk'⟩ := hr₂
            repeat (any_goals (first | assumption | wp_step))
            exact h _ _ hS' hk'
          | _ => exact hr₂.elim
    | _ => exact hr.elim
end
section
variable {X : Cx} {K : PySem.W.Frag}
/-- set(xs), xs a list of ints -/
def rSetL (w : World) (K : PySem.W.Frag) : List V → Hp → VK → Prop := fun vs H Q => ∃ (a : Addr) (ns : List Int), vs = [.ref a] ∧ SqL K H a (ns.map V.int) ∧ ns.length < 64 ∧
  ∀ (p : Addr) (n : Nat), H p = none → n ≤ ns.length → Q (.ref p) (upd H p (SetO w p (fun k => ns.any (· == k)) n))
theorem getD_range : ∀ (ns : List Int), (List.range ns.length).map (fun i => ns.getD i 0) = ns := fun ns => by
  apply List.ext_getElem?
  intro i
  rw [List.getElem?_map]
  by_cases h : i < ns.length
  · rw [List.getElem?_range h, List.getElem?_eq_getElem h]
    simp [List.getD_eq_getElem?_getD, h]
  · rw [List.getElem?_eq_none (by simpa using h), List.getElem?_eq_none (by simpa using h)]
    rfl
theorem cr_setL (hc : X.calm = true) : CallR X (.type "set") (rSetL X.w X.K) := by
  intro pins s σ H vs us Q I r h
  obtain ⟨a, ns, rfl, hs, h64, q⟩ := h
  obtain ⟨its, rv, hl, hz⟩ := I.list hs
  have hi := rv.ints
  have hlen : its.length = ns.length := hi.length
  rw [Vals.ref1 r]
  refine call_setR_list (items := its.toArray) (ns := ns) (I.ok.hd hc) hl.isList (by simpa using hi) (by rw [List.size_toArray]; unfold scanBound; omega) fun h' tk hS hk => ?_
  rw [show its.toArray.size = ns.length from by rw [List.size_toArray]; exact hlen] at hS
  have hn : H s.heap.objs.size = none := I.hok.fresh (Nat.le_refl _)
  have hS2 : SetR X.w h' s.heap.objs.size (fun k => ns.any (· == k)) (firstMet (fun i => ns.getD i 0) ns.length).length := setR_congr hS (fun k => by rw [firstMet_any, getD_range]) rfl
  exact ⟨.ref _, upd H s.heap.objs.size (SetO X.w s.heap.objs.size (fun k => ns.any (· == k)) _), I.laid (t' := tk) (fun b u e => hk b u (Heap.lt_size e) e) (Nat.le_refl _) (setO_new hS2), rfl, q _ _ hn (firstMet_length_le _ _)⟩
end

/-! ### sorted(set(..)) -/
def insU (k : Int) : List Int → List Int
  | [] => [k]
  | a :: l => if k < a then k :: a :: l else if k = a then a :: l else a :: insU k l
def ssort : List Int → List Int
  | [] => []
  | k :: l => insU k (ssort l)
theorem insU_mem (k : Int) : ∀ (l : List Int) (x : Int), x ∈ insU k l ↔ x = k ∨ x ∈ l
  | [], x => by simp [insU]
  | a :: l, x => by
    unfold insU
    by_cases h : k < a
    · rw [if_pos h]; simp
    · rw [if_neg h]
      by_cases e : k = a
      · rw [if_pos e]; simp [e]
      · rw [if_neg e, List.mem_cons, List.mem_cons, insU_mem k l x]
        constructor
        · rintro (h | h | h)
          · exact .inr (.inl h)
          · exact .inl h
          · exact .inr (.inr h)
        · rintro (h | h | h)
          · exact .inr (.inl h)
          · exact .inl h
          · exact .inr (.inr h)
theorem insU_lt (k : Int) : ∀ (l : List Int), l.Pairwise (· < ·) → (insU k l).Pairwise (· < ·)
  | [], _ => by simp [insU]
  | a :: l, h => by
    have hp := List.pairwise_cons.mp h
    unfold insU
    by_cases hk : k < a
    · rw [if_pos hk]
      refine List.pairwise_cons.mpr ⟨fun x hx => ?_, h⟩
      rcases List.mem_cons.mp hx with rfl | hx
      · exact hk
      · have := hp.1 x hx; omega
    · rw [if_neg hk]
      by_cases e : k = a
      · rw [if_pos e]; exact h
      · rw [if_neg e]
        refine List.pairwise_cons.mpr ⟨fun x hx => ?_, insU_lt k l hp.2⟩
        rcases (insU_mem k l x).mp hx with rfl | hx
        · omega
        · exact hp.1 x hx
theorem ssort_mem : ∀ (l : List Int) (x : Int), x ∈ ssort l ↔ x ∈ l
  | [], x => Iff.rfl
  | k :: l, x => by unfold ssort; rw [insU_mem, ssort_mem l x, List.mem_cons]
theorem ssort_lt : ∀ (l : List Int), (ssort l).Pairwise (· < ·)
  | [] => .nil
  | k :: l => insU_lt k _ (ssort_lt l)
theorem asc_uniq : ∀ {l m : List Int}, l.Pairwise (· < ·) → m.Pairwise (· < ·) → (∀ x, x ∈ l ↔ x ∈ m) → l = m
  | [], m, _, _, h => by
    cases m with
    | nil => rfl
    | cons b m => exact absurd ((h b).mpr (List.mem_cons_self ..)) (by simp)
  | a :: l, m, h1, h2, h => by
    cases m with
    | nil => exact absurd ((h a).mp (List.mem_cons_self ..)) (by simp)
    | cons b m =>
      have p1 := List.pairwise_cons.mp h1
      have p2 := List.pairwise_cons.mp h2
      have ab : a = b := by
        have i1 : a ≤ b := by
          rcases List.mem_cons.mp ((h b).mpr (List.mem_cons_self ..)) with e | hb
          · omega
          · have := p1.1 b hb; omega
        have i2 : b ≤ a := by
          rcases List.mem_cons.mp ((h a).mp (List.mem_cons_self ..)) with e | ha
          · omega
          · have := p2.1 a ha; omega
        omega
      subst ab
      rw [asc_uniq p1.2 p2.2 fun x => ?_]
      constructor
      · intro hx
        rcases List.mem_cons.mp ((h x).mp (List.mem_cons_of_mem _ hx)) with e | q
        · have := p1.1 x hx; omega
        · exact q
      · intro hx
        rcases List.mem_cons.mp ((h x).mpr (List.mem_cons_of_mem _ hx)) with e | q
        · have := p2.1 x hx; omega
        · exact q
def ssetL : PyData → Option (List PyData)
  | .list ds => (intsO ds).bind fun ns => if ns.length < 64 then some ((ssort ns).map .int) else none
  | _ => none
section
variable {X : Cx} {mg : Str → Option Value} {W : WX} {pos : Pos}
theorem pf_sset {e : Expr} {p1 p2 pos1 : Pos} {f : Ro → Res PyData} (hc : X.calm = true) (hg1 : Gl X "sorted") (hm1 : X.mg "sorted" = none) (hg2 : Gl X "set") (hm2 : X.mg "set" = none) (ha : PE X e (tB X.K mg W f))
    (he : starEach [e] X.env = (false, eval e X.env) :: starEach [] X.env := by rfl) (he2 : starEach [.Call (.Name "set" p2) [e] [] pos1] X.env = (false, eval (.Call (.Name "set" p2) [e] [] pos1) X.env) :: starEach [] X.env := by rfl) :
    PE X (.Call (.Name "sorted" p1) [.Call (.Name "set" p2) [e] [] pos1] [] pos) (tN X.K mg W (e1 ssetL f)) :=
  (pe_callB (cr_sortedSet hc) hg1 hm1 (by rfl) (pa_cons (pe_callTy (cr_setL hc) hg2 hm2 (by rfl) (pa_cons ha pa_nil he) (by decide) (by decide) he (by rfl)) pa_nil he2) (by decide) (by decide) he2 (by rfl)).imp fun σ H Q ⟨B, F0, F, ρ, S, p⟩ => by
    refine tE.mk S p fun d F1 H1 x _ st rx p => ?_
    obtain ⟨z, ez, q⟩ := p.ofO
    cases d with
    | list ds =>
      have ez : ((intsO ds).bind fun ns => if ns.length < 64 then some ((ssort ns).map PyData.int) else none) = some z := ez
      cases e : intsO ds with
      | none => rw [e] at ez; cases ez
      | some ns =>
        rw [e] at ez
        have ez : (if ns.length < 64 then some ((ssort ns).map PyData.int) else none) = some z := ez
        split at ez
        · rename_i h64
          cases ez
          obtain ⟨a, rfl, ha⟩ := ints_of rx e
          refine ⟨a, ns, rfl, SqL.of ha, h64, fun p n hp hn => ⟨p, _, n, rfl, upd_same, by omega, fun ns' p' ho hmem hl hp' => ?_⟩⟩
          have en : ns' = ssort ns := asc_uniq ho (ssort_lt ns) fun x => by
            rw [hmem, ssort_mem]
            simp
          subst en
          have hp1 : H1 p' = none := by
            by_cases e : p' = p
            · rw [e]; exact hp
            · rw [upd_ne e] at hp'; exact hp'
          have hpp : p' ≠ p := fun e => by rw [e, upd_same] at hp'; cases hp'
          have s2 : Stp F H F1 (upd H1 p (SetO X.w p (fun k => ns.any (· == k)) n)) := st.trans (Stp.lay hp)
          refine q F1 _ _ (s2.trans (Stp.lay hp')) ⟨p', _, rfl, st.keep.free hp1, fun z => (S.stp st).trk p' z hp1, upd_same, Rps.of_ints⟩
        · cases ez
    | _ => cases ez

/-! ### *e in displays -/
def eStar (f : Ro → Res PyData) (g : Ro → Res (List PyData)) : Ro → Res (List PyData) := fun ρ => (f ρ).bind fun d => (ofO (itL d)).bind fun xs => (g ρ).bind fun ds => .ok (xs ++ ds)
theorem pf_star {e : Expr} {es : List Expr} {p : Pos} {f : Ro → Res PyData} {g : Ro → Res (List PyData)} (h : PE X e (tB X.K mg W f)) (h2 : PA X es (tAs X.K mg W g)) (hs : starEach (.Starred e p :: es) X.env = (true, eval e X.env) :: starEach es X.env := by rfl) :
    PA X (.Starred e p :: es) (tAs X.K mg W (eStar f g)) := (StX.pa_star h h2 hs).imp fun σ H Q ⟨B, F0, F, ρ, S, p⟩ => by
  refine tE.mk S p fun d F1 H1 x _ st1 rx p => ?_
  have key : ∀ (xs : List PyData) (a : Addr) (vs : List V), itL d = some xs → x = .ref a → (SqT X.K H1 a vs ∨ SqL X.K H1 a vs) → Rps X.K F1 H1 vs xs →
      ∃ p xs, x = V.ref p ∧ (SqT X.K H1 p xs ∨ SqL X.K H1 p xs) ∧ tAs X.K mg W g σ H1 fun ys H2 => Q (xs ++ ys) H2 := fun xs a vs ei ev hq hr => by
    rw [ei] at p
    refine ⟨a, vs, ev, hq, tAs.mk (P := fun ds => ∀ F' H' vs, Stp F H F' H' → Rps X.K F' H' vs ds → Q vs H') (S.stp st1) (p.mono st1.keep) fun ds F2 H2 ys _ st2 rys q => ?_⟩
    exact q F2 H2 (vs ++ ys) (st1.trans st2) ((hr.stp st2).append rys)
  cases d with
  | list ds =>
    obtain ⟨a, vs, ev, ha, r⟩ := rx.list
    exact key ds a vs rfl ev (.inr (SqL.of ha)) r
  | tuple ds =>
    obtain ⟨a, vs, ev, ha, r⟩ := rx.tuple
    exact key ds a vs rfl ev (.inl ha) r
  | _ => exact p.elim
def lenOk (ds : List PyData) : Option (List PyData) := if ds.length ≤ 16777216 then some ds else none
theorem pf_lstV {K : PySem.W.Frag} {es : List Expr} {g : Ro → Res (List PyData)} (h : PA X es (tAs K mg W g)) : PE X (.List es pos) (tN K mg W (e1 lenOk g)) :=
  (pe_lst h).imp fun σ H Q ⟨B, F0, F, ρ, S, p⟩ => by
    refine tAs.mk S p fun ds F1 H1 xs e st rxs p => ?_
    obtain ⟨z, ez, q⟩ := p.ofO
    unfold lenOk at ez
    split at ez
    · rename_i hl
      cases ez
      refine ⟨by rw [rxs.length, sizeLine_eq]; exact hl, fun a ha => ?_⟩
      have hn : H a = none := st.keep.free ha
      exact q F1 _ _ (st.trans (Stp.lay ha)) ⟨a, xs, rfl, hn, fun z => (S.stp st).trk a z ha, upd_same, rxs.stp (Stp.lay ha)⟩
    · cases ez
def tupOk (ds : List PyData) : Option PyData := if ds.length ≤ 16777216 then some (.tuple ds) else none

/-! ### several names at once, some of them lists of one's own -/
inductive Ent where
  | val (d : PyData)
  | own (ds : List PyData)
def Ent.sl : Ent → Sl
  | .val d => .val d
  | .own ds => .own ds
inductive REs (K : PySem.W.Frag) (F : Rg) (H : Hp) : List V → List Ent → Prop
  | nil : REs K F H [] []
  | val {v : V} {d : PyData} {vs : List V} {es : List Ent} : Rp K F H v d → REs K F H vs es → REs K F H (v :: vs) (.val d :: es)
  | own {a : Addr} {xs : List V} {ds : List PyData} {vs : List V} {es : List Ent} : ¬ F a → H a = some (.lst xs) → Rps K F H xs ds → (∀ (i : Nat) (es' : List PyData), es[i]? = some (.own es') → vs[i]? ≠ some (.ref a)) → REs K F H vs es → REs K F H (.ref a :: vs) (.own ds :: es)
/-- a list in es is new since H0 -/
def NewEs (H0 : Hp) (vs : List V) (es : List Ent) : Prop := ∀ (i : Nat) (ds : List PyData) (a : Addr), es[i]? = some (.own ds) → vs[i]? = some (.ref a) → H0 a = none
def setA (σ : L2.St) : List Nat → List V → L2.St
  | i :: is, v :: vs => setA (σ.set i (some v)) is vs
  | _, _ => σ
def setE (ρ : Ro) : List Nat → List Ent → Ro
  | i :: is, e :: es => setE (ρ.set i e.sl) is es
  | _, _ => ρ
theorem Ste.sets {K : PySem.W.Frag} {B : Hp} {F0 F : Rg} {H : Hp} : ∀ (is : List Nat) {vs : List V} {es : List Ent} {σ : L2.St} {ρ : Ro}, Ste K B F0 F H σ ρ → REs K F H vs es → NewEs B vs es →
    (∀ (i j : Nat) (ds es' : List PyData) (a : Addr), es[i]? = some (.own ds) → vs[i]? = some (.ref a) → ρ[j]? = some (.own es') → σ[j]? ≠ some (some (.ref a))) → Ste K B F0 F H (setA σ is vs) (setE ρ is es)
  | [], vs, es, σ, ρ, S, r, hB, hn => by
    cases vs <;> cases es <;> exact S
  | i :: is, _, _, σ, ρ, S, .nil, hB, hn => S
  | i :: is, _, _, σ, ρ, S, .val (v := v) (d := d) (vs := vs) (es := es) a b, hB, hn => by
    refine Ste.sets is (S.set_val (i := i) a) b (fun k ds c h1 h2 => hB (k + 1) ds c h1 h2) fun k j ds es' c h1 h2 h3 h4 => ?_
    rcases getset_some h3 with ⟨rfl, q, hl⟩ | ⟨hne, h3⟩
    · cases q
    · rw [getset_ne hne] at h4
      exact hn (k + 1) j ds es' c h1 h2 h3 h4
  | i :: is, _, _, σ, ρ, S, .own (a := a) (xs := xs) (ds := ds) (vs := vs) (es := es) nf ha r hd b, hB, hn => by
    refine Ste.sets is (S.set_own (i := i) nf (hB 0 ds a rfl rfl) ha r fun j es' _ h1 => hn 0 j ds es' a rfl rfl h1) b (fun k ds c h1 h2 => hB (k + 1) ds c h1 h2) fun k j ds2 es' c h1 h2 h3 h4 => ?_
    rcases getset_some h3 with ⟨rfl, q, hl⟩ | ⟨hne, h3⟩
    · rw [List.getElem?_set_self (by rw [S.len]; exact hl)] at h4
      cases h4
      exact hd k ds2 h1 h2
    · rw [getset_ne hne] at h4
      exact hn (k + 1) j ds2 es' c h1 h2 h3 h4
theorem REs.stp {K : PySem.W.Frag} {F F' : Rg} {H H' : Hp} {vs : List V} {es : List Ent} (s : Stp F H F' H') (h : REs K F H vs es) : REs K F' H' vs es := by
  induction h with
  | nil => exact .nil
  | val a _ ih => exact .val (a.stp s) ih
  | own nf ha r hd _ ih => exact .own (fun z => (s.new _ z).elim nf fun z => by have := z.1; rw [ha] at this; cases this) (s.keep _ _ ha) (r.stp s) hd ih
def tEs (K : PySem.W.Frag) (mg : Str → Option Value) (W : WX) (f : Ro → Res (List Ent)) : TA := fun σ H Q =>
  ∃ (B : Hp) (F0 F : Rg) (ρ : Ro), Ste K B F0 F H σ ρ ∧ PostE mg W σ H (fun es => ∀ F' H' vs, Stp F H F' H' → REs K F' H' vs es → NewEs H vs es → Q vs H') (f ρ)
def mNil : Ro → Res (List Ent) := fun _ => .ok []
def mVal (f : Ro → Res PyData) (g : Ro → Res (List Ent)) : Ro → Res (List Ent) := fun ρ => (f ρ).bind fun d => (g ρ).bind fun es => .ok (.val d :: es)
def mOwn (f : Ro → Res (List PyData)) (g : Ro → Res (List Ent)) : Ro → Res (List Ent) := fun ρ => (f ρ).bind fun d => (g ρ).bind fun es => .ok (.own d :: es)
variable {K : PySem.W.Frag}
theorem tEs.mk {β : Type} {σ : L2.St} {H : Hp} {B : Hp} {F0 F : Rg} {ρ : Ro} {f : Ro → Res (List Ent)} {r : List Ent → Res β} {P : β → Prop} {Q : List V → Hp → Prop} (S : Ste K B F0 F H σ ρ) (p : PostE mg W σ H P ((f ρ).bind r))
    (h : ∀ a F' H' vs, f ρ = .ok a → Stp F H F' H' → REs K F' H' vs a → NewEs H vs a → PostE mg W σ H P (r a) → Q vs H') : tEs K mg W f σ H Q := by
  refine ⟨B, F0, F, ρ, S, ?_⟩
  cases e : f ρ with
  | ok a => rw [e] at p; exact fun F' H' v s r n => h a F' H' v e s r n p
  | exc c k => rw [e] at p; exact p
  | bad => rw [e] at p; exact p
theorem pf_mnil : PA X [] (tEs K mg W mNil) := pa_nil.imp fun σ H Q ⟨B, F0, F, ρ, S, p⟩ => p F H [] Stp.refl .nil fun i ds a h => by simp at h
theorem pf_mval {e : Expr} {es : List Expr} {f : Ro → Res PyData} {g : Ro → Res (List Ent)} (h : PE X e (tF K mg W f)) (h2 : PA X es (tEs K mg W g)) (hs : starEach (e :: es) X.env = (false, eval e X.env) :: starEach es X.env := by rfl) :
    PA X (e :: es) (tEs K mg W (mVal f g)) := (pa_cons h h2 hs).imp fun σ H Q ⟨B, F0, F, ρ, S, p⟩ => by
  refine tE.mk S p fun d F1 H1 x _ st1 rx p => ?_
  refine tEs.mk (S.stp st1) (p.mono st1.keep) fun ds F2 H2 xs _ st2 rxs hn q => ?_
  refine q F2 H2 (x :: xs) (st1.trans st2) (.val (rx.stp st2) rxs) fun i ds a h1 h2 => ?_
  cases i with
  | zero => cases h1
  | succ i => exact st1.keep.free (hn i ds a h1 h2)
theorem pf_mown {e : Expr} {es : List Expr} {f : Ro → Res (List PyData)} {g : Ro → Res (List Ent)} (h : PE X e (tN K mg W f)) (h2 : PA X es (tEs K mg W g)) (hs : starEach (e :: es) X.env = (false, eval e X.env) :: starEach es X.env := by rfl) :
    PA X (e :: es) (tEs K mg W (mOwn f g)) := (pa_cons h h2 hs).imp fun σ H Q ⟨B, F0, F, ρ, S, p⟩ => by
  refine tE.mk S p fun d F1 H1 x _ st1 rx p => ?_
  obtain ⟨a, ys, rfl, hn0, nf, ha, r⟩ := rx
  refine tEs.mk (S.stp st1) (p.mono st1.keep) fun ds F2 H2 xs _ st2 rxs hn q => ?_
  refine q F2 H2 (.ref a :: xs) (st1.trans st2) (.own (fun z => (st2.new _ z).elim nf fun z => by have := z.1; rw [ha] at this; cases this) (st2.keep _ _ ha) (r.stp st2) (fun i es' h1 h2 => by have := hn i es' a h1 h2; rw [ha] at this; cases this) rxs) fun i ds' b h1 h2 => ?_
  cases i with
  | zero => cases h1; cases h2; exact hn0
  | succ i => exact st1.keep.free (hn i ds' b h1 h2)
def sParM (is : List Nat) (fs : Ro → Res (List Ent)) : Ro → Out := fun ρ => (fs ρ).out fun es => if es.length = is.length then .nx (setE ρ is es) else .bad
theorem REs.len {F : Rg} {H : Hp} {vs : List V} {es : List Ent} (h : REs K F H vs es) : vs.length = es.length := by
  induction h with
  | nil => rfl
  | val _ _ ih => simp [ih]
  | own _ _ _ _ _ ih => simp [ih]
theorem sets_of {B : Hp} {F0 F F' : Rg} {H H' : Hp} {σ : L2.St} {ρ : Ro} {is : List Nat} {vs : List V} {es : List Ent} (S : Ste K B F0 F H σ ρ) (st : Stp F H F' H') (r : REs K F' H' vs es) (hn : NewEs H vs es) : Ste K B F0 F' H' (setA σ is vs) (setE ρ is es) :=
  Ste.sets is (S.stp st) r (fun i ds a h1 h2 => S.same.free (hn i ds a h1 h2)) fun i j ds es' a h1 h2 h3 h4 => by
    obtain ⟨b, ys, g1, _, _, g4, _⟩ := S.own j es' h3
    rw [g1] at h4
    cases h4
    rw [hn i ds a h1 h2] at g4
    cases g4
theorem pq_parM {i j : Nat} {x y : Str} {a b : Expr} {fs : Ro → Res (List Ent)} {px py pt : Pos} {kt k2 pt2} (hc : X.calm = true) (hN : X.N.Nodup) (hi : X.N[i]? = some x) (hj : X.N[j]? = some y) (hij : i ≠ j)
    (hx : X.env.scope.names.lookup x = some .local) (hy : X.env.scope.names.lookup y = some .local) (ha : PA X [a, b] (tEs K mg W fs))
    (hw : swappedStores [.Tuple [.Name x px, .Name y py] kt pt] (.Tuple [a, b] k2 pt2) X.env = pure (some [x, y]) := by rfl)
    (hs : swapsWithSole [.Tuple [.Name x px, .Name y py] kt pt] (.Tuple [a, b] k2 pt2) pos.line X.env = pure false := by rfl) :
    PS X (.Assign [.Tuple [.Name x px, .Name y py] kt pt] (.Tuple [a, b] k2 pt2) pos) (tS K mg W (sParM [i, j] fs)) := (ps_par hc hN hi hj hij hx hy ha hw hs).imp fun D σ H ⟨B, F0, F, ρ, S, p⟩ => by
  refine ⟨B, F0, F, ρ, S, PostE.of_out S p fun es _ q F' H' vs st r hn => ?_⟩
  split at q
  · rename_i hl
    have hl2 := r.len
    rw [hl] at hl2
    match vs, hl2 with
    | [v, w], _ => exact ⟨v, w, rfl, q _ F' H' (sets_of (is := [i, j]) S st r hn) st.fk⟩
  · exact q.elim
theorem pq_parM3 {i j l : Nat} {x y z : Str} {a b c : Expr} {fs : Ro → Res (List Ent)} {px py pz pt : Pos} {kt k2 pt2} (hc : X.calm = true) (hN : X.N.Nodup) (hi : X.N[i]? = some x) (hj : X.N[j]? = some y) (hl : X.N[l]? = some z) (hij : i ≠ j) (hil : i ≠ l) (hjl : j ≠ l)
    (hx : X.env.scope.names.lookup x = some .local) (hy : X.env.scope.names.lookup y = some .local) (hz : X.env.scope.names.lookup z = some .local) (ha : PA X [a, b, c] (tEs K mg W fs))
    (hw : swappedStores [.Tuple [.Name x px, .Name y py, .Name z pz] kt pt] (.Tuple [a, b, c] k2 pt2) X.env = pure (some [x, y, z]) := by rfl)
    (hs : swapsWithSole [.Tuple [.Name x px, .Name y py, .Name z pz] kt pt] (.Tuple [a, b, c] k2 pt2) pos.line X.env = pure false := by rfl) :
    PS X (.Assign [.Tuple [.Name x px, .Name y py, .Name z pz] kt pt] (.Tuple [a, b, c] k2 pt2) pos) (tS K mg W (sParM [i, j, l] fs)) := (ps_par3 hc hN hi hj hl hij hil hjl hx hy hz ha hw hs).imp fun D σ H ⟨B, F0, F, ρ, S, p⟩ => by
  refine ⟨B, F0, F, ρ, S, PostE.of_out S p fun es _ q F' H' vs st r hn => ?_⟩
  split at q
  · rename_i hl
    have hl2 := r.len
    rw [hl] at hl2
    match vs, hl2 with
    | [u, v, w], _ => exact ⟨u, v, w, rfl, q _ F' H' (sets_of (is := [i, j, l]) S st r hn) st.fk⟩
  · exact q.elim
end
end Pf
/-! Pf10: comprehensions of two fors. -/
namespace Pf
open PySem PySem.Spec PyProof.Rows L2

/-- the rows of an inner turn -/
def compF2 (g : PyData → Ro → Option Ro) (c : Ro → Res Bool) (fi1 : Ro → Res (List PyData)) (own1 : List Nat) (g1 : PyData → Ro → Option Ro) (c1 : Ro → Res Bool) (f : Ro → Res PyData) (ρ : Ro) : List PyData → Option (List PyData)
  | [] => some []
  | d :: ds => (g d ρ).bind fun ρ1 => (c ρ1).opt.bind fun b => if b = true then (fi1 ρ1).opt.bind fun es => (compF g1 c1 f (wipeR ρ1 own1) es).bind fun ys => (compF2 g c fi1 own1 g1 c1 f ρ ds).map (ys ++ ·) else compF2 g c fi1 own1 g1 c1 f ρ ds
def eComp2 (own : List Nat) (fi : Ro → Res (List PyData)) (g : PyData → Ro → Option Ro) (c : Ro → Res Bool) (fi1 : Ro → Res (List PyData)) (own1 : List Nat) (g1 : PyData → Ro → Option Ro) (c1 : Ro → Res Bool) (f : Ro → Res PyData) : Ro → Res (List PyData) := fun ρ =>
  (fi ρ).bind fun ds => ofO ((compF2 g c fi1 own1 g1 c1 f (wipeR ρ own) ds).bind lenOk)
theorem wipe_idem (σ : L2.St) (own : List Nat) : L2.wipe (L2.wipe σ own) own = L2.wipe σ own := by
  have idem : ∀ (vs ws : List Nat), (∀ v ∈ vs, v ∈ ws) → L2.wipe (L2.wipe σ ws) vs = L2.wipe σ ws := by
    intro vs
    induction vs with
    | nil => intro ws _; rfl
    | cons v vs ih =>
      intro ws hv
      show (L2.wipe (L2.wipe σ ws) vs).set v none = L2.wipe σ ws
      rw [ih ws fun u hu => hv u (List.mem_cons_of_mem _ hu)]
      have hvw := hv v (List.mem_cons_self ..)
      have key : ∀ ws : List Nat, v ∈ ws → (L2.wipe σ ws).set v none = L2.wipe σ ws := by
        intro ws
        induction ws with
        | nil => intro h; cases h
        | cons w ws ih2 =>
          intro h
          unfold L2.wipe
          by_cases e : v = w
          · subst e; rw [List.set_set]
          · rw [List.set_comm _ _ (Ne.symm e)]
            rcases List.mem_cons.mp h with e2 | h2
            · exact absurd e2 e
            · rw [ih2 h2]
      exact key ws hvw
  exact idem own own fun _ h => h
section
variable {X : Cx} {K : PySem.W.Frag} {mg : Str → Option Value} {W : WX} {pos : Pos}
theorem compF_len {g : PyData → Ro → Option Ro} {c : Ro → Res Bool} {f : Ro → Res PyData} {ρ : Ro} : ∀ {ds zs : List PyData}, compF g c f ρ ds = some zs → zs.length ≤ ds.length
  | [], zs, h => by cases h; exact Nat.le_refl _
  | d :: ds, zs, h => by
    unfold compF at h
    obtain ⟨ρ1, e1, h⟩ := Option.bind_eq_some_iff.mp h
    obtain ⟨b, e2, h⟩ := Option.bind_eq_some_iff.mp h
    split at h
    · obtain ⟨y, e3, h⟩ := Option.bind_eq_some_iff.mp h
      obtain ⟨zs', e4, rfl⟩ := Option.map_eq_some_iff.mp h
      have := compF_len e4
      simp
      omega
    · have := compF_len h
      simp
      omega
theorem Ste.poke {B : Hp} {F0 F : Rg} {H : Hp} {σ : L2.St} {ρ : Ro} {D : Addr} {o : HO} (S : Ste K B F0 F H σ ρ) (nF : ¬ F D) (nB : B D = none) (nD : ∀ (j : Nat) (es : List PyData), ρ[j]? = some (.own es) → σ[j]? ≠ some (some (.ref D))) : Ste K B F0 F (upd H D o) σ ρ := by
  have ne : ∀ {b : Addr}, F b → b ≠ D := fun {b} hb z => nF (z ▸ hb)
  have fk : FK F H F (upd H D o) := ⟨fun _ h => h, fun b hb o' e => by rw [upd_ne (ne hb)]; exact e⟩
  refine ⟨fun b o' q => ?_, S.reg, S.sub, fun b hb => by rw [upd_ne (ne hb)]; exact S.trk b hb, S.len, fun j d h => ?_, fun j es h => ?_, S.sep⟩
  · have : b ≠ D := fun z => by rw [z, nB] at q; cases q
    rw [upd_ne this]; exact S.same b o' q
  · obtain ⟨w, g1, g2⟩ := S.val j d h
    exact ⟨w, g1, g2.fk fk⟩
  · obtain ⟨b, zs, g1, g2, g3, g4, g5⟩ := S.own j es h
    have hb : b ≠ D := fun z => by rw [z] at g1; exact nD j es h g1
    exact ⟨b, zs, g1, g2, g3, by rw [upd_ne hb]; exact g4, g5.fk fk⟩
theorem Stp.poke {F1 F : Rg} {H1 H : Hp} {D : Addr} {o : HO} (s : Stp F1 H1 F H) (hD : H1 D = none) : Stp F1 H1 F (upd H D o) :=
  ⟨s.sub, fun b o' e => by rw [upd_ne (ne_of_none e hD)]; exact s.keep b o' e, fun b hb => (s.new b hb).imp id fun z => ⟨z.1, by
    by_cases e : b = D
    · rw [e, upd_same]; simp
    · rw [upd_ne e]; exact z.2⟩⟩
theorem FK.poke {F1 F : Rg} {H1 H : Hp} {D : Addr} {o : HO} (s : FK F1 H1 F H) (nF : ¬ F D) : FK F1 H1 F (upd H D o) :=
  ⟨s.sub, fun b hb o' e => by rw [upd_ne (show b ≠ D from fun z => nF (by rw [← z]; exact s.sub b hb))]; exact s.keep b hb o' e⟩
theorem tLc2_of {fi fi1 : Ro → Res (List PyData)} {g g1 : PyData → Ro → Option Ro} {c c1 : Ro → Res Bool} {f : Ro → Res PyData} {own own1 is is1 : List Nat} (his : ∀ i ∈ is, i ∈ own) (his1 : ∀ i ∈ is1, i ∈ own1) {σ : L2.St} {H : Hp} {Q : VK} (h : tN K mg W (eComp2 own fi g c fi1 own1 g1 c1 f) σ H Q) :
    tLc2 (tI K mg W true fi) (tTg K is g) (tTs K mg W0 c) (tI K mg W0 false fi1) (tTg K is1 g1) (tTs K mg W0 c1) (tF K mg W0 f) own own1 σ H Q := by
  obtain ⟨B, F0, F, ρ, S, p⟩ := h
  refine ⟨B, F0, F, ρ, S, ?_⟩
  unfold eComp2 at p
  cases ei : fi ρ with
  | exc c k => rw [ei] at p; exact p
  | bad => rw [ei] at p; exact p
  | ok ds =>
    rw [ei] at p
    obtain ⟨zs, ez, q⟩ := PostE.ofO (r := (compF2 g c fi1 own1 g1 c1 f (wipeR ρ own) ds).bind lenOk) p
    obtain ⟨zs', ez, ez2⟩ := Option.bind_eq_some_iff.mp ez
    unfold lenOk at ez2
    split at ez2
    case isFalse => cases ez2
    rename_i hlz
    cases ez2
    intro J F1 H1 st G D hD
    -- the word at the outer turn i
    let Wd : Nat → Hp → Prop := fun i H2 => ∃ (F2 : Rg) (acc : List V) (done : List PyData) (rest : List PyData), Stp F1 H1 F2 H2 ∧ ¬ F2 D ∧ H2 D = some (.lst acc) ∧ Rps K F2 H2 acc done ∧
      compF2 g c fi1 own1 g1 c1 f (wipeR ρ own) (ds.drop i) = some rest ∧ zs = done ++ rest
    refine ⟨fun i m H2 => m = ds.length - i ∧ i ≤ ds.length ∧ Wd i H2, ⟨ds.length, by simp, Nat.zero_le _, F1, [], [], zs, Stp.lay hD, fun z => (S.stp st).trk D z hD, upd_same, .nil, by simpa using ez, rfl⟩, ?_⟩
    rintro i m H2 ⟨rfl, hi, F2, acc, done, rest, s2, nF, hDl, ra, hrest, hz⟩
    have kp : Kept true F1 H1 F2 H2 := ⟨s2.sub, fun a _ o e => s2.keep a o e⟩
    by_cases hlt : i < ds.length
    · obtain ⟨g1', g2⟩ := G.go i ds[i] F2 H2 (by simp [hlt]) kp
      refine .inr ⟨g1', Wd (i + 1), fun H' hh => ⟨ds.length - (i + 1), by omega, rfl, hlt, hh⟩, fun x H3 y => ?_⟩
      obtain ⟨F3, st3, rx⟩ := g2 x H3 y
      have S3 : Ste K B F0 F3 H3 (L2.wipe σ own) (wipeR ρ own) := ((S.stp (st.trans (s2.trans st3))).wipe own)
      rw [List.drop_eq_getElem_cons hlt] at hrest
      unfold compF2 at hrest
      obtain ⟨ρ1, e1, hrest⟩ := Option.bind_eq_some_iff.mp hrest
      -- the base with D told: no own slot is at D
      have nBD : B D = none := S.same.free (st.keep.free hD)
      have hD3 : H3 D = some (.lst acc) := st3.keep _ _ hDl
      have nF3 : ¬ F3 D := fun z => (st3.new D z).elim nF fun z => by have := z.1; rw [hDl] at this; cases this
      have S3' : Ste K (upd B D (.lst acc)) F0 F3 H3 (L2.wipe σ own) (wipeR ρ own) := by
        refine ⟨fun b o q => ?_, fun a ha => (S3.reg a ha).imp id fun z => ?_, S3.sub, S3.trk, S3.len, S3.val, fun j es h => ?_, S3.sep⟩
        · by_cases e : b = D
          · rw [e, upd_same] at q; cases q; rw [e]; exact hD3
          · rw [upd_ne e] at q; exact S3.same b o q
        · rw [upd_ne (show a ≠ D from fun e => nF3 (by rw [← e]; exact ha))]; exact z
        · obtain ⟨a, xs, h1, h2, h3, h4, h5⟩ := S3.own j es h
          obtain ⟨a2, xs2, k1, k2, k3, k4, k5⟩ := (S.wipe own).own j es h
          rw [h1] at k1
          cases k1
          refine ⟨a, xs, h1, h2, ?_, h4, h5⟩
          rw [upd_ne (fun e => by rw [e, st.keep.free hD] at k4; cases k4)]
          exact h3
      refine ⟨upd B D (.lst acc), F0, F3, wipeR ρ own, ds[i], S3', rx, ρ1, e1, fun σ2 S4' w => ⟨?_, ?_⟩⟩
      · rw [w own his]; exact wipe_idem σ own
      have nD : ∀ (j : Nat) (es : List PyData), ρ1[j]? = some (.own es) → σ2[j]? ≠ some (some (.ref D)) := fun j es h z => by
        obtain ⟨a, xs, h1, h2, h3, h4, h5⟩ := S4'.own j es h
        rw [z] at h1
        cases h1
        rw [upd_same] at h3
        cases h3
      have S4 : Ste K B F0 F3 H3 σ2 ρ1 := by
        refine ⟨S3.same, S3.reg, S4'.sub, S4'.trk, S4'.len, S4'.val, fun j es h => ?_, S4'.sep⟩
        obtain ⟨a, xs, h1, h2, h3, h4, h5⟩ := S4'.own j es h
        refine ⟨a, xs, h1, h2, ?_, h4, h5⟩
        rw [upd_ne (fun e => by rw [e, upd_same] at h3; cases h3)] at h3
        exact h3
      · obtain ⟨b, eb, hrest⟩ := Option.bind_eq_some_iff.mp hrest
        refine ⟨B, F0, F3, ρ1, S4, ?_⟩
        rw [opt_some eb]
        intro F4 H4 st4
        have s24 := st3.trans st4
        have nF4 : ¬ F4 D := fun z => (s24.new D z).elim nF fun z => by have := z.1; rw [hDl] at this; cases this
        cases b with
        | false =>
          rw [if_neg (by decide)] at hrest ⊢
          exact ⟨F4, acc, done, rest, s2.trans s24, nF4, s24.keep _ _ hDl, ra.stp s24, hrest, hz⟩
        | true =>
          rw [if_pos rfl] at hrest ⊢
          obtain ⟨es, ees, hrest⟩ := Option.bind_eq_some_iff.mp hrest
          obtain ⟨ys, eys, hrest⟩ := Option.bind_eq_some_iff.mp hrest
          refine ⟨B, F0, F4, ρ1, S4.stp st4, ?_⟩
          rw [opt_some ees]
          intro J1 F5 H5 st5 G1
          obtain ⟨rest2, er2, erest⟩ := Option.map_eq_some_iff.mp hrest
          have s25 := s24.trans st5
          have hD5 : H5 D = some (.lst acc) := s25.keep _ _ hDl
          have nF5 : ¬ F5 D := fun z => (s25.new D z).elim nF fun z => by have := z.1; rw [hDl] at this; cases this
          have S5 := (S4.stp st4).stp st5
          have s15 := s2.trans s25
          -- the word at the inner turn j
          let Wd1 : Nat → Hp → Prop := fun j H6 => ∃ (F6 : Rg) (acc1 : List V) (done1 : List PyData) (r1 : List PyData), Stp F1 H1 F6 H6 ∧ FK F5 H5 F6 H6 ∧ Ste K B F0 F6 H6 σ2 ρ1 ∧ ¬ F6 D ∧ H6 D = some (.lst acc1) ∧ Rps K F6 H6 acc1 done1 ∧
            compF g1 c1 f (wipeR ρ1 own1) (es.drop j) = some r1 ∧ done ++ ys = done1 ++ r1
          refine ⟨fun j m H6 => m = es.length - j ∧ j ≤ es.length ∧ Wd1 j H6, ⟨es.length, by simp, Nat.zero_le _, F5, acc, done, ys, s15, FK.refl, S5, nF5, hD5, ra.stp s25, by simpa using eys, rfl⟩, ?_⟩
          rintro j m H6 ⟨rfl, hj, F6, acc1, done1, r1, s6, k6, S6, nF6, hD6, ra6, hr1, hz1⟩
          have kp1 : Kept false F5 H5 F6 H6 := ⟨k6.sub, fun a h o e => k6.keep a (h.elim (fun z => nomatch z) id) o e⟩
          by_cases hlt1 : j < es.length
          · obtain ⟨q1, q2⟩ := G1.go j es[j] F6 H6 (by simp [hlt1]) kp1
            refine .inr ⟨q1, Wd1 (j + 1), fun H' hh => ⟨es.length - (j + 1), by omega, rfl, hlt1, hh⟩, fun x1 H7 y1 => ?_⟩
            obtain ⟨F7, st7, rx1⟩ := q2 x1 H7 y1
            have S7 := (S6.stp st7).wipe own1
            rw [List.drop_eq_getElem_cons hlt1] at hr1
            unfold compF at hr1
            obtain ⟨ρ2, e2, hr1⟩ := Option.bind_eq_some_iff.mp hr1
            refine ⟨B, F0, F7, wipeR ρ1 own1, es[j], S7, rx1, ρ2, e2, fun σ3 S8 w1 => ⟨?_, ?_⟩⟩
            · rw [w1 own1 his1]; exact wipe_idem σ2 own1
            obtain ⟨b1, eb1, hr1⟩ := Option.bind_eq_some_iff.mp hr1
            refine ⟨B, F0, F7, ρ2, S8, ?_⟩
            rw [opt_some eb1]
            intro F8 H8 st8
            have s78 := st7.trans st8
            have nF8 : ¬ F8 D := fun z => (s78.new D z).elim nF6 fun z => by have := z.1; rw [hD6] at this; cases this
            cases b1 with
            | false =>
              rw [if_neg (by decide)] at hr1 ⊢
              exact ⟨F8, acc1, done1, r1, s6.trans s78, k6.trans s78.fk, S6.stp s78, nF8, s78.keep _ _ hD6, ra6.stp s78, hr1, hz1⟩
            | true =>
              rw [if_pos rfl] at hr1 ⊢
              obtain ⟨y, ey, hr1⟩ := Option.bind_eq_some_iff.mp hr1
              obtain ⟨r2, er2', rfl⟩ := Option.map_eq_some_iff.mp hr1
              refine ⟨B, F0, F8, ρ2, S8.stp st8, ?_⟩
              rw [opt_some ey]
              intro F9 H9 v st9 ry
              have s79 := s78.trans st9
              have hD9 : H9 D = some (.lst acc1) := s79.keep _ _ hD6
              have nF9 : ¬ F9 D := fun z => (s79.new D z).elim nF6 fun z => by have := z.1; rw [hD6] at this; cases this
              refine ⟨acc1, hD9, ?_, ?_⟩
              · rw [ra6.length, sizeLine_eq]
                have h1 : zs.length = (done ++ ys).length + rest2.length := by rw [hz, ← erest, ← List.append_assoc, List.length_append]
                rw [hz1, List.length_append, List.length_cons] at h1
                omega
              · exact ⟨F9, acc1 ++ [v], done1 ++ [y], r2, (s6.trans s79).poke hD, (k6.trans s79.fk).poke nF9, (S6.stp s79).poke nF9 nBD nD, nF9, upd_same, ((ra6.stp s79).append (.cons ry .nil)).fk (FK.refl.poke nF9), er2', by rw [hz1]; simp⟩
          · have e : j = es.length := by omega
            subst e
            refine .inl ⟨G1.stop F6 H6 kp1, ?_⟩
            rw [List.drop_length] at hr1
            cases hr1
            rw [List.append_nil] at hz1
            exact ⟨F6, acc1, done1, rest2, s6, nF6, hD6, ra6, er2, by rw [hz, ← erest, ← hz1]; simp⟩
    · have e : i = ds.length := by omega
      subst e
      refine .inl ⟨G.stop F2 H2 kp, ?_⟩
      rw [List.drop_length] at hrest
      cases hrest
      rw [List.append_nil] at hz
      subst hz
      exact q F2 H2 _ (st.trans s2) ⟨D, acc, rfl, st.keep.free hD, nF, hDl, ra⟩
/-- [e for x in .. for y in ..] -/
theorem pf_lc2 {elt tg iter tg1 iter1 : Expr} {ifs ifs1 : List Expr} {scope : Scope} {own : List (Str × Nat)} {own1 is is1 : List Nat} {fi fi1 : Ro → Res (List PyData)} {g g1 : PyData → Ro → Option Ro} {c c1 : Ro → Res Bool} {f : Ro → Res PyData} (hc : X.calm = true) (hN : X.N.Nodup) (hi : PI X tg iter (tI K mg W true fi)) (ok : BlkOk X.N X.env.scope scope own) (hv : ∀ i ∈ own1, i ∈ own.map (·.2) := by decide)
    (hg : ∀ (s : Shared) (H : Hp) (C : Addr) (cl : List (Str × Addr)) (fp : List Addr), PG (X.blk s H scope (compEnvC scope cl C X.env) fp) tg (tTg K is g)) (ht : ∀ (s : Shared) (H : Hp) (C : Addr) (cl : List (Str × Addr)) (fp : List Addr), PTs (X.blk s H scope (compEnvC scope cl C X.env) fp) ifs (tTs K mg W0 c))
    (hi1 : ∀ (s : Shared) (H : Hp) (C : Addr) (cl : List (Str × Addr)) (fp : List Addr), PI (X.blk s H scope (compEnvC scope cl C X.env) fp) tg1 iter1 (tI K mg W0 false fi1))
    (hg1 : ∀ (s : Shared) (H : Hp) (C : Addr) (cl : List (Str × Addr)) (fp : List Addr), PG (X.blk s H scope (compEnvC scope cl C X.env) fp) tg1 (tTg K is1 g1)) (ht1 : ∀ (s : Shared) (H : Hp) (C : Addr) (cl : List (Str × Addr)) (fp : List Addr), PTs (X.blk s H scope (compEnvC scope cl C X.env) fp) ifs1 (tTs K mg W0 c1))
    (he : ∀ (s : Shared) (H : Hp) (C : Addr) (cl : List (Str × Addr)) (fp : List Addr), PE (X.blk s H scope (compEnvC scope cl C X.env) fp) elt (tF K mg W0 f)) (his : ∀ i ∈ is, i ∈ own.map (·.2) := by decide) (his1 : ∀ i ∈ is1, i ∈ own1 := by decide) (hs : ∀ x, foldedSetIterable iter X.env x = pure x := by intro _; rfl) (hs1 : ∀ env x, foldedSetIterable iter1 env x = pure x := by intro _ _; rfl) :
    PE X (.ListComp elt [⟨tg, iter, ifs, 0⟩, ⟨tg1, iter1, ifs1, 0⟩] scope pos) (tN K mg W (eComp2 (own.map (·.2)) fi g c fi1 own1 g1 c1 f)) := (pe_lc2 hc hN hi ok hv hg ht hi1 hg1 ht1 he hs hs1).imp fun _ _ _ h => tLc2_of his his1 h
/-- y = [e for x in .. for y in ..] on one line, the name a local -/
theorem pq_setLc2 {own : Bool} {i : Nat} {y : Str} {py : Pos} {elt tg iter tg1 iter1 : Expr} {ifs ifs1 : List Expr} {scope : Scope} {ow : List (Str × Nat)} {own1 is is1 : List Nat} {spos : Pos} {fi fi1 : Ro → Res (List PyData)} {g g1 : PyData → Ro → Option Ro} {c c1 : Ro → Res Bool} {f : Ro → Res PyData} (hc : X.calm = true) (hN : X.N.Nodup) (hy : X.N[i]? = some y) (hyl : X.env.scope.names.lookup y = some .local)
    (hsw : swapsWith (.ListComp elt [⟨tg, iter, ifs, 0⟩, ⟨tg1, iter1, ifs1, 0⟩] scope pos) (some (.Name y py)) spos.line X.env = pure true) (hi : PI X tg iter (tI K mg W true fi)) (ok : BlkOk X.N X.env.scope scope ow) (hv : ∀ i ∈ own1, i ∈ ow.map (·.2))
    (hg : ∀ (s : Shared) (H : Hp) (C : Addr) (cl : List (Str × Addr)) (fp : List Addr), PG (X.blk s H scope (compEnvC scope cl C X.env) fp) tg (tTg K is g)) (ht : ∀ (s : Shared) (H : Hp) (C : Addr) (cl : List (Str × Addr)) (fp : List Addr), PTs (X.blk s H scope (compEnvC scope cl C X.env) fp) ifs (tTs K mg W0 c))
    (hi1 : ∀ (s : Shared) (H : Hp) (C : Addr) (cl : List (Str × Addr)) (fp : List Addr), PI (X.blk s H scope (compEnvC scope cl C X.env) fp) tg1 iter1 (tI K mg W0 false fi1))
    (hg1 : ∀ (s : Shared) (H : Hp) (C : Addr) (cl : List (Str × Addr)) (fp : List Addr), PG (X.blk s H scope (compEnvC scope cl C X.env) fp) tg1 (tTg K is1 g1)) (ht1 : ∀ (s : Shared) (H : Hp) (C : Addr) (cl : List (Str × Addr)) (fp : List Addr), PTs (X.blk s H scope (compEnvC scope cl C X.env) fp) ifs1 (tTs K mg W0 c1))
    (he : ∀ (s : Shared) (H : Hp) (C : Addr) (cl : List (Str × Addr)) (fp : List Addr), PE (X.blk s H scope (compEnvC scope cl C X.env) fp) elt (tF K mg W0 f)) (his : ∀ i ∈ is, i ∈ ow.map (·.2) := by decide) (his1 : ∀ i ∈ is1, i ∈ own1 := by decide) (hs : ∀ x, foldedSetIterable iter X.env x = pure x := by intro _; rfl) (hs1 : ∀ env x, foldedSetIterable iter1 env x = pure x := by intro _ _; rfl) :
    PS X (.Assign [.Name y py] (.ListComp elt [⟨tg, iter, ifs, 0⟩, ⟨tg1, iter1, ifs1, 0⟩] scope pos) spos) (tS K mg W (if own = true then sSetN i (eComp2 (ow.map (·.2)) fi g c fi1 own1 g1 c1 f) else sSet i (e1 listD (eComp2 (ow.map (·.2)) fi g c fi1 own1 g1 c1 f)))) :=
  (ps_setLc2 hc hN hy hyl hsw hi ok hv hg ht hi1 hg1 ht1 he hs hs1).imp fun D σ H ⟨B, F0, F, ρ, S, p⟩ => by
    refine tLc2_of his his1 ⟨B, F0, F, ρ, S, ?_⟩
    cases own with
    | true => exact PostE.of_out S p fun ds _ q F' H' v st ⟨a, xs, ev, hn, nf, ha, r⟩ => by subst ev; exact q _ F' H' (set_own_of S st hn nf ha r) st.fk
    | false =>
      have p2 : PostS K mg W B F0 F H D ((eComp2 (ow.map (·.2)) fi g c fi1 own1 g1 c1 f ρ).out fun ds => .nx (ρ.set i (.val (.list ds)))) := by
        rw [if_neg (by decide)] at p
        unfold sSet e1 at p
        cases e : eComp2 (ow.map (·.2)) fi g c fi1 own1 g1 c1 f ρ with
        | _ => rw [e] at p; exact p
      refine PostE.of_out S p2 fun ds _ q F' H' v st ⟨a, xs, ev, hn, nf, ha, r⟩ => ?_
      subst ev
      have s2 : Stp F H (fun b => F' b ∨ b = a) H' := ⟨fun b h => .inl (st.sub b h), st.keep, fun b h => h.elim (fun z => st.new b z) fun z => .inr (by rw [z]; exact ⟨hn, by rw [ha]; simp⟩)⟩
      exact q _ _ H' ((S.stp s2).set_val (.lst (.inr rfl) ha (r.fk ⟨fun _ h => .inl h, fun _ _ _ h => h⟩))) s2.fk
end
end Pf
/-! Pf11: short forms. -/
namespace Pf
open PySem PySem.Spec PyProof.Rows L2

theorem takes0 {X : Cx} : Takes X W0 := fun _ _ x => by
  obtain ⟨_, _, _, _, _, _, _, _, _, _, _, _, _, _, _, _, z⟩ := x
  exact z.elim
theorem u64 {k : Nat} {A : Around} (r : Room k A) : A.units + 64 < cLine := r.units
theorem u66 {k : Nat} {A : Around} (r : Room k A) : A.units + 66 < cLine := by have := r.un; omega
abbrev FnP (K : PySem.W.Frag) (x : Str) (st : Stmt) (f : Addr) (fd : FuncData) : Prop := FunD K x x (defArgs st) (defBody st) (defScope st) [] [] f fd
section
variable {P : Program} {w : World} {K : PySem.W.Frag} {mg : Str → Option Value} {base : Heap}
/-- THE RULE of a def: its body as a plain function of the slots -/
theorem fnD_ok {x : Str} {st : Stmt} {f : Addr} {fd : FuncData} {N ps : List Str} {n j k : Nat} {g : Ro → Out} (Fu : FnP K x st f fd) (S : FnScope N ps (defScope st)) (hn : ps.length = n) (hj : N.length - ps.length = j) (hle : ps.length ≤ N.length)
    (hbody : ∀ (cdv : Value) (A : Around) (outer : List Env) (s : Shared) (H : Hp) (E : XK), Room k (A.deeper (envOfC x (defScope st) s.heap.objs.size f cdv)) →
      PSs (cxOf (L2.CX P w) P w K mg base N x (defScope st) f cdv A outer s H E) (defBody st) (tS K mg (fun cls d _ H' => E cls d H') g)) : FnOk P w K mg base (L2.CX P w) (k + 1) f fd ps (spOf K mg n (mDef n j g)) := by
  refine FunD.ok Fu S (fun vs H Q E h => h.1.trans hn.symm) fun cdv A outer s H vs Q E hr hsp => ?_
  refine ⟨_, hbody cdv A outer s H E hr, ?_⟩
  obtain ⟨hl, F, ds, ht, r, p⟩ := hsp
  have hl2 : vs.length = ps.length := hl.trans hn.symm
  refine ⟨H, F, F, _, start_ste hl2 hle ht r, ?_⟩
  rw [hj]
  unfold mDef at p
  rw [if_pos (by rw [← r.length]; exact hl)] at p
  cases eg : g (ds.map .val ++ List.replicate j .un) with
  | nx ρ' => rw [eg] at p; exact fun σ' F' H' S' k => p F' H' .non ⟨S'.sub, S'.same, fun a h => (S'.reg a h).imp id fun z => ⟨z, S'.trk a h⟩⟩ .non
  | ret d => rw [eg] at p; exact fun v F' H' s r => p F' H' v s r
  | bk ρ' => rw [eg] at p; exact p.elim
  | ct ρ' => rw [eg] at p; exact p.elim
  | exc c k => rw [eg] at p; exact fun σ' H' dx C s e1 e2 => p H' dx C s e1 e2
  | bad => rw [eg] at p; exact p.elim
end

section
variable {X : Cx} {mg : Str → Option Value} {W : WX} {pos p : Pos} {e : Expr} {f : Ro → Res PyData}
theorem pf_1B (h : PE X e (tB X.K mg W f)) (hs : starEach [e] X.env = (false, eval e X.env) :: starEach [] X.env := by rfl) : PA X [e] (tABs X.K mg W (eCons f eNil)) := pf_consB h pf_nilB hs
theorem pf_len (hm : X.mg "len" = none) (h : PE X e (tB X.K mg W f)) (hg : Gl X "len" := by rfl) (hs : starEach [e] X.env = (false, eval e X.env) :: starEach [] X.env := by rfl) (hpl : (backTo pos (starEach [] X.env)).any (·.1) = false := by rfl) : PE X (.Call (.Name "len" p) [e] [] pos) (tF X.K mg W (e1 lenD (eCons f eNil))) :=
  pf_callB call_len sem_len hg hm (by rfl) (pf_1B h hs) (by decide) (by decide) hs hpl
theorem pf_abs (hm : X.mg "abs" = none) (h : PE X e (tB X.K mg W f)) (hg : Gl X "abs" := by rfl) (hs : starEach [e] X.env = (false, eval e X.env) :: starEach [] X.env := by rfl) (hpl : (backTo pos (starEach [] X.env)).any (·.1) = false := by rfl) : PE X (.Call (.Name "abs" p) [e] [] pos) (tF X.K mg W (e1 absD (eCons f eNil))) :=
  pf_callB call_abs sem_abs hg hm (by rfl) (pf_1B h hs) (by decide) (by decide) hs hpl
theorem pf_int1 (hm : X.mg "int" = none) (h : PE X e (tB X.K mg W f)) (hg : Gl X "int" := by rfl) (hs : starEach [e] X.env = (false, eval e X.env) :: starEach [] X.env := by rfl) (hpl : (backTo pos (starEach [] X.env)).any (·.1) = false := by rfl) : PE X (.Call (.Name "int" p) [e] [] pos) (tF X.K mg W (e1 intD (eCons f eNil))) :=
  pf_callTy call_int1 sem_int hg hm (by rfl) (pf_1B h hs) (by decide) (by decide) hs hpl
theorem pf_sum (hc : X.calm = true) (hm : X.mg "sum" = none) (h : PE X e (tB X.K mg W f)) (hg : Gl X "sum" := by rfl) (hs : starEach [e] X.env = (false, eval e X.env) :: starEach [] X.env := by rfl) (hpl : (backTo pos (starEach [] X.env)).any (·.1) = false := by rfl) : PE X (.Call (.Name "sum" p) [e] [] pos) (tF X.K mg W (e1 sumD (eCons f eNil))) :=
  pf_callB (cr_sum hc) sem_sum hg hm (by rfl) (pf_1B h hs) (by decide) (by decide) hs hpl
theorem pf_all (hc : X.calm = true) (hm : X.mg "all" = none) (h : PE X e (tB X.K mg W f)) (hg : Gl X "all" := by rfl) (hs : starEach [e] X.env = (false, eval e X.env) :: starEach [] X.env := by rfl) (hpl : (backTo pos (starEach [] X.env)).any (·.1) = false := by rfl) : PE X (.Call (.Name "all" p) [e] [] pos) (tF X.K mg W (e1 allD (eCons f eNil))) :=
  pf_callB (cr_all hc) sem_all hg hm (by rfl) (pf_1B h hs) (by decide) (by decide) hs hpl
theorem pf_any (hc : X.calm = true) (hm : X.mg "any" = none) (h : PE X e (tB X.K mg W f)) (hg : Gl X "any" := by rfl) (hs : starEach [e] X.env = (false, eval e X.env) :: starEach [] X.env := by rfl) (hpl : (backTo pos (starEach [] X.env)).any (·.1) = false := by rfl) : PE X (.Call (.Name "any" p) [e] [] pos) (tF X.K mg W (e1 anyD (eCons f eNil))) :=
  pf_callB (cr_any hc) sem_any hg hm (by rfl) (pf_1B h hs) (by decide) (by decide) hs hpl
theorem pf_max (hc : X.calm = true) (hm : X.mg "max" = none) (h : PE X e (tB X.K mg W f)) (hg : Gl X "max" := by rfl) (hs : starEach [e] X.env = (false, eval e X.env) :: starEach [] X.env := by rfl) (hpl : (backTo pos (starEach [] X.env)).any (·.1) = false := by rfl) : PE X (.Call (.Name "max" p) [e] [] pos) (tF X.K mg W (e1 maxD (eCons f eNil))) :=
  pf_callB (cr_max hc) sem_max hg hm (by rfl) (pf_1B h hs) (by decide) (by decide) hs hpl
theorem pf_min (hc : X.calm = true) (hm : X.mg "min" = none) (h : PE X e (tB X.K mg W f)) (hg : Gl X "min" := by rfl) (hs : starEach [e] X.env = (false, eval e X.env) :: starEach [] X.env := by rfl) (hpl : (backTo pos (starEach [] X.env)).any (·.1) = false := by rfl) : PE X (.Call (.Name "min" p) [e] [] pos) (tF X.K mg W (e1 minD (eCons f eNil))) :=
  pf_callB (cr_min hc) sem_min hg hm (by rfl) (pf_1B h hs) (by decide) (by decide) hs hpl
theorem pf_maxT (hc : X.calm = true) (hu : X.A.units + 66 < cLine) (hm : X.mg "max" = none) (h : PE X e (tB X.K mg W f)) (hg : Gl X "max" := by rfl) (hs : starEach [e] X.env = (false, eval e X.env) :: starEach [] X.env := by rfl) (hpl : (backTo pos (starEach [] X.env)).any (·.1) = false := by rfl) : PE X (.Call (.Name "max" p) [e] [] pos) (tF X.K mg W (e1 maxTD (eCons f eNil))) :=
  pf_callB (cr_maxT hc hu) sem_maxT hg hm (by rfl) (pf_1B h hs) (by decide) (by decide) hs hpl
theorem pf_minT (hc : X.calm = true) (hu : X.A.units + 66 < cLine) (hm : X.mg "min" = none) (h : PE X e (tB X.K mg W f)) (hg : Gl X "min" := by rfl) (hs : starEach [e] X.env = (false, eval e X.env) :: starEach [] X.env := by rfl) (hpl : (backTo pos (starEach [] X.env)).any (·.1) = false := by rfl) : PE X (.Call (.Name "min" p) [e] [] pos) (tF X.K mg W (e1 minTD (eCons f eNil))) :=
  pf_callB (cr_minT hc hu) sem_minT hg hm (by rfl) (pf_1B h hs) (by decide) (by decide) hs hpl
theorem pf_tuple (hm : X.mg "tuple" = none) (h : PE X e (tB X.K mg W f)) (hg : Gl X "tuple" := by rfl) (hs : starEach [e] X.env = (false, eval e X.env) :: starEach [] X.env := by rfl) (hpl : (backTo pos (starEach [] X.env)).any (·.1) = false := by rfl) : PE X (.Call (.Name "tuple" p) [e] [] pos) (tF X.K mg W (e1 tupleD (eCons f eNil))) :=
  pf_callTy call_tuple_of sem_tuple hg hm (by rfl) (pf_1B h hs) (by decide) (by decide) hs hpl
theorem pf_list (hm : X.mg "list" = none) (h : PE X e (tB X.K mg W f)) (hg : Gl X "list" := by rfl) (hs : starEach [e] X.env = (false, eval e X.env) :: starEach [] X.env := by rfl) (hpl : (backTo pos (starEach [] X.env)).any (·.1) = false := by rfl) : PE X (.Call (.Name "list" p) [e] [] pos) (tN X.K mg W (e1 listN (eCons f eNil))) :=
  pf_callTyN call_list_of sem_list hg hm (by rfl) (pf_1B h hs) (by decide) (by decide) hs hpl
theorem pf_sorted (hm : X.mg "sorted" = none) (h : PE X e (tB X.K mg W f)) (hg : Gl X "sorted" := by rfl) (hs : starEach [e] X.env = (false, eval e X.env) :: starEach [] X.env := by rfl) (hpl : (backTo pos (starEach [] X.env)).any (·.1) = false := by rfl) : PE X (.Call (.Name "sorted" p) [e] [] pos) (tN X.K mg W (e1 sortedN (eCons f eNil))) :=
  pf_callBN cr_sortedI sem_sorted hg hm (by rfl) (pf_1B h hs) (by decide) (by decide) hs hpl
variable {a b : Expr} {g h : Ro → Res PyData}
theorem pf_2B (ha : PE X a (tB X.K mg W g)) (hb : PE X b (tB X.K mg W h)) (hs : starEach [a, b] X.env = (false, eval a X.env) :: starEach [b] X.env := by rfl) (hs2 : starEach [b] X.env = (false, eval b X.env) :: starEach [] X.env := by rfl) : PA X [a, b] (tABs X.K mg W (eCons g (eCons h eNil))) := pf_consB ha (pf_consB hb pf_nilB hs2) hs
theorem pf_max2 (hc : X.calm = true) (hm : X.mg "max" = none) (ha : PE X a (tB X.K mg W g)) (hb : PE X b (tB X.K mg W h)) (hg : Gl X "max" := by rfl) (hs : starEach [a, b] X.env = (false, eval a X.env) :: starEach [b] X.env := by rfl) (hs2 : starEach [b] X.env = (false, eval b X.env) :: starEach [] X.env := by rfl) (hpl : (backTo pos (starEach [b] X.env)).any (·.1) = false := by rfl) :
    PE X (.Call (.Name "max" p) [a, b] [] pos) (tF X.K mg W (e1 max2D (eCons g (eCons h eNil)))) := pf_callB (call_max2 hc) sem_max2 hg hm (by rfl) (pf_2B ha hb hs hs2) (by decide) (by decide) hs hpl
theorem pf_min2 (hc : X.calm = true) (hm : X.mg "min" = none) (ha : PE X a (tB X.K mg W g)) (hb : PE X b (tB X.K mg W h)) (hg : Gl X "min" := by rfl) (hs : starEach [a, b] X.env = (false, eval a X.env) :: starEach [b] X.env := by rfl) (hs2 : starEach [b] X.env = (false, eval b X.env) :: starEach [] X.env := by rfl) (hpl : (backTo pos (starEach [b] X.env)).any (·.1) = false := by rfl) :
    PE X (.Call (.Name "min" p) [a, b] [] pos) (tF X.K mg W (e1 min2D (eCons g (eCons h eNil)))) := pf_callB (call_min2 hc) sem_min2 hg hm (by rfl) (pf_2B ha hb hs hs2) (by decide) (by decide) hs hpl
end
end Pf
/-! Pf12: the head's Hook: defs, names, the errors. -/
namespace Pf
open PySem PySem.Spec PyProof.Rows L2

def oexB (K : PySem.W.Frag) (C : Addr) : Bool := (match K.lookup C with
  | some ⟨.type "type", _, .cls cd, sl⟩ => (match cd.mro, sl.toList with
    | .ref C' :: bm, [_, _, _, _, some (.builtin n), _] => C' == C && n == "ValueError.__new__" && !cd.hasDel && cd.hasDict && PySem.HandSPX.refsVE bm
    | _, _ => false)
  | _ => false) && (decide (PySem.W.findIn K (.ref C) "__setattr__" = some (some (.builtin "object.__setattr__"))) && (decide (PySem.W.subIn K (.ref C) (.type "BaseException") = some true) && (decide (PySem.W.typeIn K (.ref C) = some (.type "type")) && PySem.W.keepIn K (.ref C))))
theorem oexB_ok {K : PySem.W.Frag} {C : Addr} (h : oexB K C = true) : OexC K C := by
  obtain ⟨h1, h⟩ := He.ba h
  obtain ⟨h2, h⟩ := He.ba h
  obtain ⟨h3, h⟩ := He.ba h
  obtain ⟨h4, h5⟩ := He.ba h
  refine ⟨?_, of_decide_eq_true h2, of_decide_eq_true h3, of_decide_eq_true h4, h5⟩
  split at h1
  · rename_i dd cd sl ho
    split at h1
    · rename_i C' bm k0 k1 k2 k3 n k5 hm hs
      simp only [Bool.and_eq_true, beq_iff_eq, Bool.not_eq_true'] at h1
      obtain ⟨⟨⟨⟨rfl, rfl⟩, hdel⟩, hdict⟩, ht⟩ := h1
      obtain ⟨nm, bs, mro, ns, qn, hd, sn, sub, ab, col, del⟩ := cd
      dsimp only at hm hdel hdict
      subst hm hdel hdict
      have hsl : sl = #[k0, k1, k2, k3, some (.builtin "ValueError.__new__"), k5] := by
        obtain ⟨l⟩ := sl
        simp only at hs
        rw [hs]
      subst hsl
      exact ⟨nm, qn, ns, bs, bm, sn, sub, ab, col, dd, k0, k1, k2, k3, k5, ho, ht⟩
    · cases h1
  · cases h1
/-- the first error class's __init__ -/
def iA (K : PySem.W.Frag) (D : Str) : Addr := He.ma K (He.ga K D) "__init__"
def cA (K : PySem.W.Frag) (D : Str) : Addr := match K.lookup (iA K D) with
  | some ⟨_, _, .func fd, _⟩ => (match fd.closure with
    | [(_, c)] => c
    | _ => 0)
  | _ => 0
abbrev InV : Type := Option (Str × Str × Arguments × FuncBody × Scope × Addr × List Str × Addr)
def inW (K : PySem.W.Frag) (D : Str) : InV := match K.lookup (iA K D) with
  | some ⟨_, _, .func fd, _⟩ => some (fd.name, fd.qualname, fd.params, fd.body, fd.scope, fd.globals, fd.closure.map (·.1), fd.builtins)
  | _ => none
def inVal (qual : Str) (st : Stmt) : InV := some ("__init__", qual, defArgs st, .stmts (defBody st), defScope st, mainGlobals, ["__class__"], builtinsNs)
def noneV : Value → Bool
  | .none => true
  | _ => false
def strV (file : Str) : Option Value → Bool
  | some (.str f _) => file == f
  | _ => false
def fldB (file : Str) : Option Obj → Bool
  | some ⟨_, _, .fields vs, _⟩ => strV file vs[2]?
  | _ => false
def codB (K : PySem.W.Frag) (file : Str) : Value → Bool
  | .ref cda => fldB file (K.lookup cda)
  | _ => false
def funB (K : PySem.W.Frag) (qual file : Str) : Option Obj → Bool
  | some ⟨_, _, .func fd, _⟩ => PySem.W.codeIn K fd.code qual && (noneV fd.defaults && codB K file fd.code)
  | _ => false
def celB (d : Addr) : Option Obj → Bool
  | some ⟨_, _, .cell (some (.ref D')), _⟩ => D' == d
  | _ => false
def inB (K : PySem.W.Frag) (D qual : Str) (file : Str) : Bool := PySem.W.keepIn K (.ref (iA K D)) && (funB K qual file (K.lookup (iA K D)) && (celB (He.ga K D) (K.lookup (cA K D)) && (PySem.W.clsIn K (He.ga K D)).isSome))
theorem celB_ok {d : Addr} {o : Option Obj} (h : celB d o = true) : ∃ (cl : Value) (cld : Option Addr) (csl : Array (Option Value)), o = some ⟨cl, cld, .cell (some (.ref d)), csl⟩ := by
  unfold celB at h
  split at h
  · rw [beq_iff_eq.mp h]; exact ⟨_, _, _, rfl⟩
  · cases h
theorem codB_ok {K : PySem.W.Frag} {file : Str} {v : Value} (h : codB K file v = true) : ∃ cda ccl cdd vs ccs f t, v = .ref cda ∧ K.lookup cda = some ⟨ccl, cdd, .fields vs, ccs⟩ ∧ vs[2]? = some (.str f t) ∧ (file == f) = true := by
  unfold codB at h
  split at h
  · rename_i cda
    unfold fldB at h
    split at h
    · rename_i vs _ e
      unfold strV at h
      split at h
      · rename_i f t e2
        exact ⟨cda, _, _, _, _, f, t, rfl, e, e2, h⟩
      · cases h
    · cases h
  · cases h
theorem inB_ok {P : Program} {K : PySem.W.Frag} {mg : Str → Option Value} {D qual : Str} {st : Stmt} (h : inB K D qual P.main.file = true) (e : inW K D = inVal qual st) (hs : mg "super" = none) (ht : (P.main.scope.names.lookup ("super" : Str)).isSome = false) : ∃ fd, InitF P K mg qual st (iA K D) fd (He.ga K D) (cA K D) := by
  obtain ⟨h1, h⟩ := He.ba h
  obtain ⟨h2, h⟩ := He.ba h
  obtain ⟨h3, h4⟩ := He.ba h
  have hc := celB_ok h3
  have hcl : ∃ cd, PySem.W.clsIn K (He.ga K D) = some cd := Option.isSome_iff_exists.mp h4
  unfold inW at e
  have hcA : cA K D = (match K.lookup (iA K D) with
    | some ⟨_, _, .func fd, _⟩ => (match fd.closure with
      | [(_, c)] => c
      | _ => 0)
    | _ => 0) := rfl
  cases q : K.lookup (iA K D) with
  | none => rw [q] at h2; cases h2
  | some o =>
    obtain ⟨oc, od, dt, osl⟩ := o
    rw [q] at h2 e hcA
    cases dt with
    | func fd =>
      obtain ⟨n1, n2, n3, n4, n5, n6, n7, n8, n9, n10, n11, n12, n13, n14, n15⟩ := fd
      have e2 : (some (n1, n2, n3, n4, n5, n6, n7.map (·.1), n15) : InV) = inVal qual st := e
      unfold inVal at e2
      simp only [Option.some.injEq, Prod.mk.injEq] at e2
      obtain ⟨g1, g2, g3, g4, g5, g6, g7, g8⟩ := e2
      subst g1 g2 g3 g4 g5 g6 g8
      obtain ⟨c, rfl⟩ : ∃ c : Addr, n7 = [(("__class__" : Str), c)] := by
        match n7, g7 with
        | [(x, c)], g7 =>
          have : x = ("__class__" : Str) := by simpa using g7
          rw [this]
          exact ⟨c, rfl⟩
      have hcA : cA K D = c := hcA
      have h2 : (PySem.W.codeIn K n13 n2 && (noneV n8 && codB K P.main.file n13)) = true := h2
      obtain ⟨k1, k2⟩ := He.ba h2
      obtain ⟨k3, k4⟩ := He.ba k2
      have e8 : n8 = .none := by
        unfold noneV at k3
        split at k3
        · rfl
        · cases k3
      obtain ⟨cda, ccl, cdd, vs, ccs, f, t, rfl, q2, q3, q4⟩ := codB_ok k4
      subst e8
      exact ⟨_, ⟨oc, od, n9, n10, n11, n12, cda, n14, osl, ccl, cdd, vs, ccs, f, t, by rw [hcA], q, k1, q2, q3, q4⟩, h1, hc, hcl, hs, ht⟩
    | _ => cases h2
def exOkB (K : PySem.W.Frag) (D C : Str) : Bool := oexB K (He.ga K C) && (decide (PySem.W.findIn K (.ref (He.ga K C)) "__init__" = some (some (.ref (iA K D)))) && (decide (PySem.W.findIn K (.ref (He.ga K C)) "at" = some none) &&
  (decide (PySem.W.mroIn K (He.ga K C) (.ref (He.ga K D)) = some true) && (decide (PySem.W.ks_superIn K (He.ga K C) (He.ga K D) "__init__" = some (some (.builtin "ValueError.__init__"))) &&
  (decide (PySem.W.subIn K (.ref (He.ga K C)) (.type "ValueError") = some true) && (decide (PySem.W.nsIn K cStatics "thirdparty.any" = some none) && (decide (PySem.W.typeIn K (.ref (iA K D)) = some (.type "function")) && xfB K (He.ga K C))))))))
theorem exOkB_ok {K : PySem.W.Frag} {D C : Str} (h : exOkB K D C = true) : ExcOk K (He.ga K D) (iA K D) (He.ga K C) ∧ XfC K (He.ga K C) := by
  obtain ⟨h1, h⟩ := He.ba h
  obtain ⟨h2, h⟩ := He.ba h
  obtain ⟨h3, h⟩ := He.ba h
  obtain ⟨h4, h⟩ := He.ba h
  obtain ⟨h5, h⟩ := He.ba h
  obtain ⟨h6, h⟩ := He.ba h
  obtain ⟨h7, h⟩ := He.ba h
  obtain ⟨h8, h9⟩ := He.ba h
  exact ⟨⟨oexB_ok h1, of_decide_eq_true h2, of_decide_eq_true h3, of_decide_eq_true h4, of_decide_eq_true h5, of_decide_eq_true h6, of_decide_eq_true h7, of_decide_eq_true h8⟩, xfB_ok h9⟩

/-- nothing let out at the end -/
theorem fn_close {P : Program} {w : World} {K : PySem.W.Frag} {mg : Str → Option Value} {base : Heap} {k : Nat} {f : Addr} {fd : FuncData} {ps : List Str} {sp : Sp} (F : FnOk P w K mg base (L2.CX P w) k f fd ps sp) : FnOk P w K mg base CX0 k f fd ps (fun vs H Q _ => sp vs H Q (fun _ _ _ => False)) := by
  refine ⟨fun vs H Q E h => F.len vs H Q _ h, fun A outer s H args us vs Q E hr e0 hb r h => ?_⟩
  refine codeAny_mono (F.run A outer s H args us vs Q (fun _ _ _ => False) hr e0 hb r h) fun r s' hq => ?_
  cases r with
  | error e =>
    obtain ⟨_, _, _, _, _, _, _, _, _, _, _, _, z⟩ := hq
    exact z.elim
  | ok fl => cases fl <;> exact hq
/-- the law's script -/
theorem Rp_scr {K : PySem.W.Frag} {H : Hp} {a : Addr} {ns : List Int} (hO : Only H) (h : SqL K H a (ns.map V.int)) : ∃ F : Rg, (∀ b, F b → H b ≠ none) ∧ Rp K F H (.ref a) (scr ns) := by
  rcases h with (h | ⟨o, h⟩) | h
  · rcases hO a with z | ⟨o, xs, z⟩
    · rw [z] at h; cases h
    · rw [z] at h; cases h
  · exact ⟨fun b => b = a, fun b e => by rw [e, h]; simp, .scr rfl h⟩
  · exact ⟨fun _ => False, fun _ z => z.elim, .scrK h⟩
theorem sp_law {K : PySem.W.Frag} {mg : Str → Option Value} {m : List PyData → Res PyData} {n : Nat} (hm : ∀ ns : List Int, ns.length ≤ n → m [scr ns] = .ok (.bool true)) (H : Hp) (a : Addr) (ns : List Int) (hl : ns.length ≤ n) (hO : Only H) (h : SqL K H a (ns.map V.int)) :
    (fun vs H Q (_ : XK) => spOf K mg 1 m vs H Q (fun _ _ _ => False)) [.ref a] H (fun v _ => v = .bl true) (fun _ _ _ => False) := by
  obtain ⟨F, ht, r⟩ := Rp_scr hO h
  refine ⟨rfl, F, [scr ns], ht, .cons r .nil, ?_⟩
  rw [hm ns hl]
  exact fun F' H' v _ rv => (RpB.rp rv).bool'

/-! ### the Hook: names, defs, D the class with the __init__, cs the classes raised, pairs of classes caught -/
structure Wt where
  fa : List He.Fa
  fn : List He.DefD
  D : Str
  qual : Str
  st : Stmt
  file : Str
  cs : List Str
  ex : List (Str × Str × Bool)
abbrev AlP : Type := He.AlD × Bool × InV
def obsP (t : Wt) (K : PySem.W.Frag) : AlP := (He.obsD t.fa t.fn K, inB K t.D t.qual t.file && (t.cs.all (fun c => exOkB K t.D c) && t.ex.all fun e => (He.Fa.exm e.1 e.2.1 e.2.2).ok K), inW K t.D)
def valP (t : Wt) : AlP := (He.valD t.fn, true, inVal t.qual t.st)
def SaysP (t : Wt) (K : PySem.W.Frag) : Prop := obsP t K = valP t
/-- what is reached: also the object that holds what stands in no name -/
def asP (g : Addr → Option Obj) (n : Nat) : List Addr := cStatics :: He.asD g n
def obsPG (n : Nat) (t : Wt) (g : Addr → Option Obj) : AlP := obsP t (He.frG g (asP g n))
def hookP (n : Nat) (t : Wt) : PySem.W.Hook where
  α := AlP
  obs := fun s => obsPG n t s.heap.get?
  val := fun _ => valP t
  says := fun _ h => ∃ K : PySem.W.Frag, K.In h ∧ SaysP t K
  of := fun _ _ e => ⟨_, He.frG_in, e⟩
  keeps := fun _ _ _ ⟨K, hK, c⟩ k => ⟨K, PySem.W.Frag.In.keeps hK k, c⟩
theorem obsPG_eq {n : Nat} {t : Wt} {g : Addr → Option Obj} {s : Shared} (h : ∀ a, g a = s.heap.get? a) : obsPG n t g = (hookP n t).obs s := by
  have e : g = s.heap.get? := funext h
  rw [e] <;> rfl
section
variable {t : Wt} {K : PySem.W.Frag}
theorem SaysP.d (c : SaysP t K) : He.SaysD t.fa t.fn K := congrArg (fun z : AlP => z.1) c
theorem SaysP.b (c : SaysP t K) : inB K t.D t.qual t.file = true ∧ (∀ x ∈ t.cs, exOkB K t.D x = true) ∧ ∀ e ∈ t.ex, (He.Fa.exm e.1 e.2.1 e.2.2).ok K = true := by
  obtain ⟨h1, h⟩ := He.ba (show (inB K t.D t.qual t.file && (t.cs.all (fun c => exOkB K t.D c) && t.ex.all fun e => (He.Fa.exm e.1 e.2.1 e.2.2).ok K)) = true from congrArg (fun z : AlP => z.2.1) c)
  obtain ⟨h2, h3⟩ := He.ba h
  exact ⟨h1, List.all_eq_true.mp h2, List.all_eq_true.mp h3⟩
theorem SaysP.i (c : SaysP t K) : inW K t.D = inVal t.qual t.st := congrArg (fun z : AlP => z.2.2) c
end
end Pf
/-! Pf13: mirrors reckoned. -/
namespace Pf
open PySem PySem.Spec PyProof.Rows L2

section
variable {α β γ : Type}
@[simp] theorem mDef_eq (n j : Nat) (g : Ro → Out) (ds : List PyData) : mDef n j g ds = if ds.length = n then outR (g (ds.map .val ++ List.replicate j .un)) else .bad := rfl
@[simp] theorem sSeq_eq (g h : Ro → Out) (ρ : Ro) : sSeq g h ρ = (g ρ).seq h := rfl
@[simp] theorem sPass_eq (ρ : Ro) : sPass ρ = .nx ρ := rfl
@[simp] theorem sSet_eq (i : Nat) (f : Ro → Res PyData) (ρ : Ro) : sSet i f ρ = (f ρ).out fun d => .nx (ρ.set i (.val d)) := rfl
@[simp] theorem sSetN_eq (i : Nat) (f : Ro → Res (List PyData)) (ρ : Ro) : sSetN i f ρ = (f ρ).out fun d => .nx (ρ.set i (.own d)) := rfl
@[simp] theorem sAsg_eq (g : PyData → Ro → Option Ro) (f : Ro → Res PyData) (ρ : Ro) : sAsg g f ρ = (f ρ).out fun d => oNx (g d ρ) := rfl
@[simp] theorem sExpr_eq (f : Ro → Res PyData) (ρ : Ro) : sExpr f ρ = (f ρ).out fun _ => .nx ρ := rfl
@[simp] theorem sRet_eq (f : Ro → Res PyData) (ρ : Ro) : sRet f ρ = (f ρ).out .ret := rfl
@[simp] theorem sRetN_eq (ρ : Ro) : sRetN ρ = .ret .none := rfl
@[simp] theorem sIf_eq (c : Ro → Res Bool) (g h : Ro → Out) (ρ : Ro) : sIf c g h ρ = (c ρ).out fun b => if b = true then g ρ else h ρ := rfl
@[simp] theorem sFor_eq (fi : Ro → Res (List PyData)) (g : PyData → Ro → Option Ro) (b : Ro → Out) (ρ : Ro) : sFor fi g b ρ = (fi ρ).out fun ds => forF g b ds ρ := rfl
@[simp] theorem sWhile_eq (n : Nat) (c : Ro → Res Bool) (b : Ro → Out) (ρ : Ro) : sWhile n c b ρ = whF c b n ρ := rfl
@[simp] theorem sFrz_eq (is : List Nat) (g : Ro → Out) (ρ : Ro) : sFrz is g ρ = g (frz is ρ) := rfl
@[simp] theorem frz_nil (ρ : Ro) : frz [] ρ = ρ := rfl
@[simp] theorem frz_cons (i : Nat) (is : List Nat) (ρ : Ro) : frz (i :: is) ρ = frz is (frz1 i ρ) := rfl
@[simp] theorem frz1_own {i : Nat} {ρ : Ro} {ds : List PyData} (h : ρ[i]? = some (.own ds)) : frz1 i ρ = ρ.set i (.val (.list ds)) := by unfold frz1; rw [h]
@[simp] theorem frz1_val {i : Nat} {ρ : Ro} {d : PyData} (h : ρ[i]? = some (.val d)) : frz1 i ρ = ρ := by unfold frz1; rw [h]
@[simp] theorem sParM_eq (is : List Nat) (fs : Ro → Res (List Ent)) (ρ : Ro) : sParM is fs ρ = (fs ρ).out fun es => if es.length = is.length then .nx (setE ρ is es) else .bad := rfl
@[simp] theorem mNil_eq (ρ : Ro) : mNil ρ = .ok [] := rfl
@[simp] theorem mVal_eq (f : Ro → Res PyData) (g : Ro → Res (List Ent)) (ρ : Ro) : mVal f g ρ = (f ρ).bind fun d => (g ρ).bind fun es => .ok (.val d :: es) := rfl
@[simp] theorem mOwn_eq (f : Ro → Res (List PyData)) (g : Ro → Res (List Ent)) (ρ : Ro) : mOwn f g ρ = (f ρ).bind fun d => (g ρ).bind fun es => .ok (.own d :: es) := rfl
@[simp] theorem setE_nil (ρ : Ro) (es : List Ent) : setE ρ [] es = ρ := by cases es <;> rfl
@[simp] theorem setE_cons (ρ : Ro) (i : Nat) (is : List Nat) (e : Ent) (es : List Ent) : setE ρ (i :: is) (e :: es) = setE (ρ.set i e.sl) is es := rfl
@[simp] theorem Ent.sl_val (d : PyData) : (Ent.val d).sl = .val d := rfl
@[simp] theorem Ent.sl_own (d : List PyData) : (Ent.own d).sl = .own d := rfl
@[simp] theorem sApp_eq {i : Nat} {ρ : Ro} {ds : List PyData} (f : Ro → Res PyData) (h : ρ[i]? = some (.own ds)) : sApp i f ρ = (f ρ).out fun d => if ds.length < 16777216 then .nx (ρ.set i (.own (ds ++ [d]))) else .bad := by unfold sApp; rw [h]
@[simp] theorem sRaise_eq (c : Str) (f : Ro → Res PyData) (ρ : Ro) (k : Int) (h : f ρ = .ok (.int k)) : sRaise c f ρ = .exc c k := by unfold sRaise; rw [h]; rfl
@[simp] theorem eVar_val {i : Nat} {ρ : Ro} {d : PyData} (h : ρ[i]? = some (.val d)) : eVar i ρ = .ok d := by unfold eVar; rw [h]
@[simp] theorem eVarB_val {i : Nat} {ρ : Ro} {d : PyData} (h : ρ[i]? = some (.val d)) : eVarB i ρ = .ok d := by unfold eVarB; rw [h]
@[simp] theorem eVarB_own {i : Nat} {ρ : Ro} {d : List PyData} (h : ρ[i]? = some (.own d)) : eVarB i ρ = .ok (.list d) := by unfold eVarB; rw [h]
@[simp] theorem eC_eq (d : PyData) (ρ : Ro) : eC d ρ = .ok d := rfl
@[simp] theorem e1_eq (s : α → Option β) (f : Ro → Res α) (ρ : Ro) : e1 s f ρ = (f ρ).bind fun d => ofO (s d) := rfl
@[simp] theorem e2_eq (s : α → β → Option γ) (f : Ro → Res α) (g : Ro → Res β) (ρ : Ro) : e2 s f g ρ = (f ρ).bind fun d => (g ρ).bind fun e => ofO (s d e) := rfl
@[simp] theorem eNil_eq (ρ : Ro) : eNil ρ = .ok [] := rfl
@[simp] theorem eCons_eq (f : Ro → Res PyData) (g : Ro → Res (List PyData)) (ρ : Ro) : eCons f g ρ = (f ρ).bind fun d => (g ρ).bind fun ds => .ok (d :: ds) := rfl
@[simp] theorem eStar_eq (f : Ro → Res PyData) (g : Ro → Res (List PyData)) (ρ : Ro) : eStar f g ρ = (f ρ).bind fun d => (ofO (itL d)).bind fun xs => (g ρ).bind fun ds => .ok (xs ++ ds) := rfl
@[simp] theorem eIf_eq (c : Ro → Res Bool) (f g : Ro → Res α) (ρ : Ro) : eIf c f g ρ = (c ρ).bind fun b => if b = true then f ρ else g ρ := rfl
@[simp] theorem eAnd_eq (c d : Ro → Res Bool) (ρ : Ro) : eAnd c d ρ = (c ρ).bind fun b => if b = true then d ρ else .ok false := rfl
@[simp] theorem eOr_eq (c d : Ro → Res Bool) (ρ : Ro) : eOr c d ρ = (c ρ).bind fun b => if b = true then .ok true else d ρ := rfl
@[simp] theorem eNot_eq (c : Ro → Res Bool) (ρ : Ro) : eNot c ρ = (c ρ).bind fun b => .ok (!b) := rfl
@[simp] theorem eCall_eq (m : List PyData → Res PyData) (fs : Ro → Res (List PyData)) (ρ : Ro) : eCall m fs ρ = (fs ρ).bind m := rfl
@[simp] theorem eBool_eq (c : Ro → Res Bool) (ρ : Ro) : eBool c ρ = (c ρ).bind fun b => .ok (.bool b) := rfl
@[simp] theorem eChain_eq (s s' : PyData → PyData → Option PyData) (f g h : Ro → Res PyData) (ρ : Ro) : eChain s s' f g h ρ = (f ρ).bind fun d => (g ρ).bind fun e => (ofO ((s d e).bind asB)).bind fun k => if k = true then (h ρ).bind fun u => ofO ((s' e u).bind asB) else .ok false := rfl
@[simp] theorem eSl_eq (s : PyData → Option Int → Option Int → Option β) (f : Ro → Res PyData) (l u : Ro → Res (Option Int)) (ρ : Ro) : eSl s f l u ρ = (f ρ).bind fun d => (l ρ).bind fun i => (u ρ).bind fun j => ofO (s d i j) := rfl
@[simp] theorem eNone_eq (ρ : Ro) : eNone ρ = .ok none := rfl
@[simp] theorem eComp_eq (own : List Nat) (fi : Ro → Res (List PyData)) (g : PyData → Ro → Option Ro) (c : Ro → Res Bool) (f : Ro → Res PyData) (ρ : Ro) : eComp own fi g c f ρ = (fi ρ).bind fun ds => ofO (compF g c f (wipeR ρ own) ds) := rfl
@[simp] theorem eTrue_eq (ρ : Ro) : eTrue ρ = .ok true := rfl
@[simp] theorem wipeR_nil (ρ : Ro) : wipeR ρ [] = ρ := rfl
@[simp] theorem wipeR_cons (ρ : Ro) (i : Nat) (is : List Nat) : wipeR ρ (i :: is) = (wipeR ρ is).set i .un := rfl
@[simp] theorem gSet_eq (i : Nat) (d : PyData) (ρ : Ro) : gSet i d ρ = some (ρ.set i (.val d)) := rfl
@[simp] theorem gsNil_eq (ρ : Ro) : gsNil [] ρ = some ρ := rfl
@[simp] theorem gsCons_eq (g : PyData → Ro → Option Ro) (gs : List PyData → Ro → Option Ro) (d : PyData) (ds : List PyData) (ρ : Ro) : gsCons g gs (d :: ds) ρ = (g d ρ).bind (gs ds) := rfl
@[simp] theorem gUnp_tuple (gs : List PyData → Ro → Option Ro) (ds : List PyData) (ρ : Ro) : gUnp gs (.tuple ds) ρ = gs ds ρ := rfl
@[simp] theorem gUnp_list (gs : List PyData → Ro → Option Ro) (ds : List PyData) (ρ : Ro) : gUnp gs (.list ds) ρ = gs ds ρ := rfl
@[simp] theorem asB_bool (b : Bool) : asB (.bool b) = some b := rfl
@[simp] theorem asI_int (i : Int) : asI (.int i) = some (some i) := rfl
@[simp] theorem itL_list (xs : List PyData) : itL (.list xs) = some xs := rfl
@[simp] theorem itL_tuple (xs : List PyData) : itL (.tuple xs) = some xs := rfl
@[simp] theorem listL_list (xs : List PyData) : listL (.list xs) = some xs := rfl
@[simp] theorem listD_eq (xs : List PyData) : listD xs = some (.list xs) := rfl
@[simp] theorem tupD_eq (xs : List PyData) : tupD xs = some (.tuple xs) := rfl
@[simp] theorem listN_list (xs : List PyData) : listN [.list xs] = some xs := rfl
@[simp] theorem lenD_list (xs : List PyData) : lenD [.list xs] = some (.int xs.length) := rfl
@[simp] theorem lenD_tuple (xs : List PyData) : lenD [.tuple xs] = some (.int xs.length) := rfl
@[simp] theorem lenD_scr (ns : List Int) : lenD [scr ns] = some (.int ns.length) := by simp [lenD]
@[simp] theorem absD_int (i : Int) : absD [.int i] = some (.int i.natAbs) := by
  show some (PyData.int (if i < 0 then -i else i)) = _
  congr 2; split <;> omega
@[simp] theorem intD_int (i : Int) : intD [.int i] = some (.int i) := rfl
@[simp] theorem intD_bool (i : Bool) : intD [.bool i] = some (.int (if i then 1 else 0)) := rfl
@[simp] theorem max2D_int (i j : Int) : max2D [.int i, .int j] = some (.int (max i j)) := by
  show some (PyData.int (if j > i then j else i)) = _
  congr 2; split <;> omega
@[simp] theorem min2D_int (i j : Int) : min2D [.int i, .int j] = some (.int (min i j)) := by
  show some (PyData.int (if j < i then j else i)) = _
  congr 2; split <;> omega
@[simp] theorem addD_int (a b : Int) : addD (.int a) (.int b) = some (.int (a + b)) := rfl
@[simp] theorem subD_int (a b : Int) : subD (.int a) (.int b) = some (.int (a - b)) := rfl
theorem mulD_int {a b : Int} (h : okMul a b = true) : mulD (.int a) (.int b) = some (.int (a * b)) := by simp [mulD, h]
@[simp] theorem negD_int (a : Int) : negD (.int a) = some (.int (-a)) := rfl
@[simp] theorem modD_int {a b : Int} (h : 0 < b) : modD (.int a) (.int b) = some (.int (a % b)) := by simp [modD, h]
theorem divD_int {a b : Int} (h : 0 < b) (h2 : b.natAbs.log2 < 9000) : divD (.int a) (.int b) = some (.int (a / b)) := by simp [divD, h, h2]
@[simp] theorem ltD_int (a b : Int) : ltD (.int a) (.int b) = some (.bool (decide (a < b))) := rfl
@[simp] theorem leD_int (a b : Int) : leD (.int a) (.int b) = some (.bool (decide (a ≤ b))) := rfl
@[simp] theorem gtD_int (a b : Int) : gtD (.int a) (.int b) = some (.bool (decide (b < a))) := rfl
@[simp] theorem geD_int (a b : Int) : geD (.int a) (.int b) = some (.bool (decide (b ≤ a))) := rfl
@[simp] theorem ixD_list (xs : List PyData) (i : Int) : ixD (.list xs) (.int i) = atI xs i := rfl
@[simp] theorem ixD_tuple (xs : List PyData) (i : Int) : ixD (.tuple xs) (.int i) = atI xs i := rfl
@[simp] theorem ixD_scr (ns : List Int) (i : Int) : ixD (scr ns) (.int i) = (atI ns i).map .int := by
  show atI ((ns.map fun n => (PyData.none, PyData.int n)).map (·.2)) i = _
  have : (ns.map fun n => (PyData.none, PyData.int n)).map (·.2) = ns.map PyData.int := by simp [List.map_map, Function.comp_def]
  rw [this]
  unfold atI
  simp [List.getElem?_map]
  cases ixN ns.length i <;> simp
@[simp] theorem atI_map {δ : Type} (f : α → δ) (xs : List α) (i : Int) : atI (xs.map f) i = (atI xs i).map f := by
  unfold atI
  simp [List.getElem?_map]
  cases ixN xs.length i <;> simp
theorem atI_nat (xs : List α) (k : Nat) : atI xs (k : Int) = xs[k]? := by
  unfold atI ixN
  rw [if_pos (by omega)]
  by_cases h : k < xs.length
  · rw [if_pos (by omega)]
    simp
  · rw [if_neg (by omega), List.getElem?_eq_none (by omega)]
    rfl
@[simp] theorem atI_0 (xs : List α) : atI xs 0 = xs[0]? := atI_nat xs 0
@[simp] theorem atI_1 (xs : List α) : atI xs 1 = xs[1]? := atI_nat xs 1
@[simp] theorem atI_2 (xs : List α) : atI xs 2 = xs[2]? := atI_nat xs 2
@[simp] theorem atI_3 (xs : List α) : atI xs 3 = xs[3]? := atI_nat xs 3
theorem atI_at {xs : List α} {i : Int} {x : α} (h0 : 0 ≤ i) (h : xs[i.toNat]? = some x) : atI xs i = some x := by
  have := atI_nat xs i.toNat
  rw [Int.toNat_of_nonneg h0] at this
  rw [this, h]
/-- a loop that goes on from state to state -/
theorem forF_run {σ : Type} (st : σ → Ro) {g : PyData → Ro → Option Ro} {b : Ro → Out} (step : σ → PyData → σ) (P : σ → Prop) : ∀ (ds : List PyData) (a : σ), P a →
    (∀ a d, P a → d ∈ ds → P (step a d) ∧ ∃ ρ, g d (st a) = some ρ ∧ (b ρ = .nx (st (step a d)) ∨ b ρ = .ct (st (step a d)))) → forF g b ds (st a) = .nx (st (ds.foldl step a))
  | [], a, _, _ => rfl
  | d :: ds, a, hP, h => by
    obtain ⟨h1, ρ, h2, h3⟩ := h a d hP (List.mem_cons_self ..)
    unfold forF
    rw [h2]
    have ih := forF_run st step P ds (step a d) h1 fun a d' q hd => h a d' q (List.mem_cons_of_mem _ hd)
    rcases h3 with h3 | h3 <;> simp [h3, ih]
theorem forF_inv {g : PyData → Ro → Option Ro} {b : Ro → Out} (I : Nat → Ro → Prop) : ∀ (ds : List PyData) (i : Nat) (ρ : Ro), I i ρ →
    (∀ (j : Nat) (d : PyData) (ρ : Ro), ds[j]? = some d → I (i + j) ρ → ∃ ρ1 ρ2, g d ρ = some ρ1 ∧ (b ρ1 = .nx ρ2 ∨ b ρ1 = .ct ρ2) ∧ I (i + j + 1) ρ2) → ∃ ρ', forF g b ds ρ = .nx ρ' ∧ I (i + ds.length) ρ'
  | [], i, ρ, h, _ => ⟨ρ, rfl, h⟩
  | d :: ds, i, ρ, h, hs => by
    obtain ⟨ρ1, ρ2, h1, h2, h3⟩ := hs 0 d ρ rfl h
    obtain ⟨ρ', h4, h5⟩ := forF_inv I ds (i + 1) ρ2 h3 fun j d' ρ q hI => by
      have := hs (j + 1) d' ρ (by simpa using q) (by rw [show i + (j + 1) = i + 1 + j by omega]; exact hI)
      rw [show i + 1 + j + 1 = i + (j + 1) + 1 by omega]
      exact this
    refine ⟨ρ', ?_, by rw [show i + (d :: ds).length = i + 1 + ds.length by simp; omega]; exact h5⟩
    unfold forF
    rw [h1]
    rcases h2 with h2 | h2 <;> simp [h2, h4]
/-- a comprehension over what is told -/
theorem compF_map {ι : Type} (toD : ι → PyData) {g : PyData → Ro → Option Ro} {c : Ro → Res Bool} {f : Ro → Res PyData} {ρ : Ro} (p : ι → Bool) (h : ι → PyData) : ∀ (xs : List ι),
    (∀ x ∈ xs, ∃ ρ1, g (toD x) ρ = some ρ1 ∧ c ρ1 = .ok (p x) ∧ (p x = true → f ρ1 = .ok (h x))) → compF g c f ρ (xs.map toD) = some ((xs.filter p).map h)
  | [], _ => rfl
  | x :: xs, hx => by
    obtain ⟨ρ1, h1, h2, h3⟩ := hx x (List.mem_cons_self ..)
    have ih := compF_map toD p h xs fun y hy => hx y (List.mem_cons_of_mem _ hy)
    rw [List.map_cons]
    unfold compF
    rw [h1]
    cases hp : p x with
    | true => simp [h2, hp, h3 hp, ih]
    | false => simp [h2, hp, ih]
theorem compF_all {ι : Type} (toD : ι → PyData) {g : PyData → Ro → Option Ro} {f : Ro → Res PyData} {ρ : Ro} (h : ι → PyData) (xs : List ι)
    (hx : ∀ x ∈ xs, ∃ ρ1, g (toD x) ρ = some ρ1 ∧ f ρ1 = .ok (h x)) : compF g eTrue f ρ (xs.map toD) = some (xs.map h) := by
  have := compF_map toD (c := eTrue) (ρ := ρ) (fun _ => true) h xs fun x hm => let ⟨ρ1, a, b⟩ := hx x hm; ⟨ρ1, a, rfl, fun _ => b⟩
  rw [this, List.filter_eq_self.mpr fun _ _ => rfl]
@[simp] theorem rg1_int (n : Int) (h : -4611686018427387904 ≤ n) (h2 : n ≤ 16777216) : rg1 [.int n] = some (rngL 0 n.toNat) := by
  show (if -4611686018427387904 ≤ n ∧ n ≤ 16777216 then some (rngL 0 n.toNat) else none) = _
  rw [if_pos ⟨h, h2⟩]
theorem rg2_int (i j : Int) (h1 : -4611686018427387904 ≤ i) (h2 : i < 4611686018427387904) (h3 : -4611686018427387904 ≤ j) (h4 : j < 4611686018427387904) (h5 : j - i ≤ 16777216) : rg2 [.int i, .int j] = some (rngL i (j - i).toNat) := by
  show (if _ then _ else _) = _
  rw [if_pos ⟨h1, h2, h3, h4, h5⟩]
theorem rngL_0 (n : Nat) : rngL 0 n = (List.range n).map fun i => PyData.int (i : Nat) := by
  unfold rngL
  simp
@[simp] theorem sumD_ints (ns : List Int) : sumD [.list (ns.map .int)] = some (.int ns.sum) := by
  show (intsO (ns.map PyData.int)).map (fun ns => PyData.int ns.sum) = _
  rw [intsO_map]
  rfl
@[simp] theorem maxD_ints (ns : List Int) : maxD [.list (ns.map .int)] = (maxL ns).map PyData.int := by
  show (intsO (ns.map PyData.int)).bind (fun ns => (maxL ns).map PyData.int) = _
  rw [intsO_map]
  rfl
@[simp] theorem minD_ints (ns : List Int) : minD [.list (ns.map .int)] = (minL ns).map PyData.int := by
  show (intsO (ns.map PyData.int)).bind (fun ns => (minL ns).map PyData.int) = _
  rw [intsO_map]
  rfl
@[simp] theorem allD_bools (ns : List Bool) : allD [.list (ns.map .bool)] = some (.bool (ns.all id)) := by
  show (boolsO (ns.map PyData.bool)).map (fun bs => PyData.bool (bs.all id)) = _
  rw [boolsO_map]
  rfl
theorem forF_nil (g : PyData → Ro → Option Ro) (b : Ro → Out) (ρ : Ro) : forF g b [] ρ = .nx ρ := rfl
end
/-! ### slices -/
section
variable {α : Type}
@[simp] theorem slT_list (xs : List PyData) (i j : Option Int) : slT (.list xs) i j = some (.list (cutD xs i j)) := rfl
@[simp] theorem slL_list (xs : List PyData) (i j : Option Int) : slL (.list xs) i j = some (cutD xs i j) := rfl
theorem cut_from (xs : List PyData) (k : Nat) : cutD xs (some (k : Int)) none = xs.drop k := by
  unfold cutD
  rw [HT.sIx_nat, HT.sIx_none]
  by_cases h : k ≤ xs.length
  · rw [Nat.min_eq_left h, List.take_of_length_le (by simp)]
  · rw [Nat.min_eq_right (by omega), List.drop_of_length_le (Nat.le_refl _), List.drop_of_length_le (by omega)]
    simp
theorem cut_to (xs : List PyData) (k : Nat) : cutD xs none (some (k : Int)) = xs.take k := by
  unfold cutD
  rw [HT.sIx_nat, HT.sIx_none, List.drop_zero, Nat.sub_zero]
  by_cases h : k ≤ xs.length
  · rw [Nat.min_eq_left h]
  · rw [Nat.min_eq_right (by omega), List.take_of_length_le (Nat.le_refl _), List.take_of_length_le (by omega)]
theorem cut_m2 (l : List PyData) (a b : PyData) : cutD (l ++ [a, b]) (some (-2)) none = [a, b] := by
  unfold cutD
  have e : HT.sIx (l ++ [a, b]).length 0 (some (-2)) = l.length := by
    show (if (-2 : Int) < 0 then ((-2 : Int) + ((l ++ [a, b]).length : Int)).toNat else min (-2 : Int).toNat (l ++ [a, b]).length) = _
    rw [if_pos (by decide)]
    simp
    omega
  rw [e, HT.sIx_none]
  simp
theorem cut_to_m2 (l : List PyData) (a b : PyData) : cutD (l ++ [a, b]) none (some (-2)) = l := by
  unfold cutD
  have e : HT.sIx (l ++ [a, b]).length (l ++ [a, b]).length (some (-2)) = l.length := by
    show (if (-2 : Int) < 0 then ((-2 : Int) + ((l ++ [a, b]).length : Int)).toNat else min (-2 : Int).toNat (l ++ [a, b]).length) = _
    rw [if_pos (by decide)]
    simp
    omega
  rw [e, HT.sIx_none]
  simp
theorem atI_m1 (l : List α) (a : α) : atI (l ++ [a]) (-1) = some a := by
  unfold atI ixN
  rw [if_neg (by decide), if_pos (by simp; omega)]
  have e : ((-1 : Int) + ((l ++ [a]).length : Int)).toNat = l.length := by simp; omega
  simp only [Option.bind_some]
  rw [e]
  simp
theorem atI_m2 (l : List α) (a b : α) : atI (l ++ [a, b]) (-2) = some a := by
  unfold atI ixN
  rw [if_neg (by decide), if_pos (by simp; omega)]
  have e : ((-2 : Int) + ((l ++ [a, b]).length : Int)).toNat = l.length := by simp; omega
  simp only [Option.bind_some]
  rw [e]
  simp
theorem atI_m1' (l : List α) (a b : α) : atI (l ++ [a, b]) (-1) = some b := by
  have := atI_m1 (l ++ [a]) b
  simpa using this
@[simp] theorem enumL_list (xs : List PyData) : enumL [.list xs] = some (xs.zipIdx.map fun p => .tuple [.int (p.2 : Nat), p.1]) := rfl
theorem zipL_list (xs ys : List PyData) (h : xs.length ≤ 16777216) : zipL [.list xs, .list ys] = some ((xs.zip ys).map fun p => .tuple [p.1, p.2]) := if_pos h
@[simp] theorem isD_none (d : PyData) : isD d .none = some (.bool (isNo d)) := by cases d <;> rfl
@[simp] theorem isnD_none (d : PyData) : isnD d .none = some (.bool (!isNo d)) := by cases d <;> rfl
@[simp] theorem isD_bool (a b : Bool) : isD (.bool a) (.bool b) = some (.bool (decide (a = b))) := rfl
@[simp] theorem isnD_bool (a b : Bool) : isnD (.bool a) (.bool b) = some (.bool (!decide (a = b))) := rfl
end
/-- a small number -/
theorem log_lt {a : Int} {k : Nat} (h : a.natAbs < 2 ^ k) (hk : 0 < k) : a.natAbs.log2 < k := by
  by_cases h0 : a.natAbs = 0
  · rw [h0]; simpa using hk
  · exact (Nat.log2_lt h0).mpr h
theorem okMul_of {a b : Int} {k l : Nat} (h : a.natAbs < 2 ^ k) (h2 : b.natAbs < 2 ^ l) (hs : k + l < 999000 := by decide) : okMul a b = true := by
  unfold okMul
  have h1 : a.natAbs.log2 < k + 1 := log_lt (Nat.lt_of_lt_of_le h (Nat.pow_le_pow_right (by decide) (by omega))) (by omega)
  have h3 : b.natAbs.log2 < l + 1 := log_lt (Nat.lt_of_lt_of_le h2 (Nat.pow_le_pow_right (by decide) (by omega))) (by omega)
  simp only [decide_eq_true_eq]
  omega
end Pf
/-! Pf14: membership in lists and tuples; tuples of the module; the hook that tells of them. -/
namespace Pf
open PySem PySem.Spec PyProof.Rows L2
section
variable {X : Cx} {K : PySem.W.Frag} {mg : Str → Option Value} {W : WX} {pos : Pos}

/-! ### in, not in -/
def inD : PyData → PyData → Option PyData
  | d, .list ds => if SeqAt.shaped d = true ∧ SeqAt.shaped (.list ds) = true then some (.bool (ds.any fun z => PyData.eqv z d)) else none
  | d, .tuple ds => if SeqAt.shaped d = true ∧ SeqAt.shaped (.tuple ds) = true then some (.bool (ds.any fun z => PyData.eqv z d)) else none
  | _, _ => none
def ninD : PyData → PyData → Option PyData
  | d, .list ds => if SeqAt.shaped d = true ∧ SeqAt.shaped (.list ds) = true then some (.bool (!ds.any fun z => PyData.eqv z d)) else none
  | d, .tuple ds => if SeqAt.shaped d = true ∧ SeqAt.shaped (.tuple ds) = true then some (.bool (!ds.any fun z => PyData.eqv z d)) else none
  | _, _ => none
def rInT (K : PySem.W.Frag) : R2 := fun x y H Q => ∃ d ds, Dp K H x d ∧ Dp K H y (.tuple ds) ∧ SeqAt.shaped d = true ∧ SeqAt.shaped (.tuple ds) = true ∧ Q (.bl (ds.any fun z => PyData.eqv z d)) H
def rNinT (K : PySem.W.Frag) : R2 := fun x y H Q => ∃ d ds, Dp K H x d ∧ Dp K H y (.tuple ds) ∧ SeqAt.shaped d = true ∧ SeqAt.shaped (.tuple ds) = true ∧ Q (.bl (!ds.any fun z => PyData.eqv z d)) H
theorem room_inT {A : Around} {ds : List PyData} {d : PyData} (sd : SeqAt.shaped d = true) (hu : A.units + 65 < cLine) : A.units + 1 + min (PyData.depthAll ds) d.depth < cLine := by
  have h : (d.canLay0 && decide (d.depth ≤ 64)) = true := sd
  have h2 : d.depth ≤ 64 := of_decide_eq_true (Bool.and_eq_true_iff.mp h).2
  omega
theorem op_inT (hu : X.A.units + 65 < cLine) : OpR X (compareOp .In) (rInT X.K) := by
  intro pins s σ H x y v u Q I rx ry h
  obtain ⟨d, ds, hd, he, sd, se, q⟩ := h
  obtain ⟨as, r1⟩ := Dp.reads I d x v hd rx
  obtain ⟨bs, r2⟩ := Dp.reads I (.tuple ds) y u he ry
  exact SeqAt.in_tuple_reads r2 r1 (SeqAt.canLay_of_shaped se) (SeqAt.canLay_of_shaped sd) (room_inT sd hu) ⟨.bl _, H, I, rfl, q⟩
theorem op_ninT (hu : X.A.units + 65 < cLine) : OpR X (compareOp .NotIn) (rNinT X.K) := by
  intro pins s σ H x y v u Q I rx ry h
  obtain ⟨d, ds, hd, he, sd, se, q⟩ := h
  obtain ⟨as, r1⟩ := Dp.reads I d x v hd rx
  obtain ⟨bs, r2⟩ := Dp.reads I (.tuple ds) y u he ry
  exact SeqAt.notIn_tuple_reads r2 r1 (SeqAt.canLay_of_shaped se) (SeqAt.canLay_of_shaped sd) (room_inT sd hu) ⟨.bl _, H, I, rfl, q⟩
theorem sem_in : Sem2 K (fun x y H Q => rInD K x y H Q ∨ rInT K x y H Q) inD := by
  intro F H x y d e z Q rx ry hs h
  unfold inD at hs
  split at hs
  · split at hs
    · rename_i hl
      cases hs
      exact .inl ⟨_, _, rx.dp (SeqAt.canLay_of_shaped hl.1), ry.dp (SeqAt.canLay_of_shaped hl.2), hl.1, hl.2, h F H _ Stp.refl (.bl _)⟩
    · cases hs
  · split at hs
    · rename_i hl
      cases hs
      exact .inr ⟨_, _, rx.dp (SeqAt.canLay_of_shaped hl.1), ry.dp (SeqAt.canLay_of_shaped hl.2), hl.1, hl.2, h F H _ Stp.refl (.bl _)⟩
    · cases hs
  · cases hs
theorem sem_nin : Sem2 K (fun x y H Q => rNotInD K x y H Q ∨ rNinT K x y H Q) ninD := by
  intro F H x y d e z Q rx ry hs h
  unfold ninD at hs
  split at hs
  · split at hs
    · rename_i hl
      cases hs
      exact .inl ⟨_, _, rx.dp (SeqAt.canLay_of_shaped hl.1), ry.dp (SeqAt.canLay_of_shaped hl.2), hl.1, hl.2, h F H _ Stp.refl (.bl _)⟩
    · cases hs
  · split at hs
    · rename_i hl
      cases hs
      exact .inr ⟨_, _, rx.dp (SeqAt.canLay_of_shaped hl.1), ry.dp (SeqAt.canLay_of_shaped hl.2), hl.1, hl.2, h F H _ Stp.refl (.bl _)⟩
    · cases hs
  · cases hs
theorem cm_in (hK : X.K = K) (hu : X.A.units + 66 < cLine) : CmpR X K .In inD := ⟨_, (op_inD (by omega)).or (op_inT (by omega)), hK ▸ sem_in⟩
theorem cm_nin (hK : X.K = K) (hu : X.A.units + 66 < cLine) : CmpR X K .NotIn ninD := ⟨_, (op_notInD (by omega)).or (op_ninT (by omega)), hK ▸ sem_nin⟩

/-! ### tuples of the module -/
def atB : Value → PyData → Bool
  | .int i _, .int j => i == j
  | .str x _, .str y => x == y
  | .bool a, .bool b => a == b
  | .none, .none => true
  | _, _ => false
def atsB : List Value → List PyData → Bool
  | [], [] => true
  | v :: vs, d :: ds => atB v d && atsB vs ds
  | _, _ => false
def tupB (K : PySem.W.Frag) (a : Addr) (ds : List PyData) : Bool := match K.lookup a with
  | some ⟨.type "tuple", _, .seq its _, _⟩ => decide (its.size ≤ 16777216) && atsB its.toList ds
  | _ => false
structure GTup (K : PySem.W.Frag) (a : Addr) (ds : List PyData) : Prop where
  h : ∃ xs, StT K a xs ∧ ∀ F H, Rps K F H xs ds
theorem atB_ok {v : Value} {d : PyData} (h : atB v d = true) : ∃ x, RelV x v ∧ ∀ F H, Rp K F H x d := by
  unfold atB at h
  split at h
  · cases eq_of_beq h; exact ⟨.int _, ⟨_, rfl⟩, fun _ _ => .int _⟩
  · cases eq_of_beq h; exact ⟨.str _, ⟨_, rfl⟩, fun _ _ => .str _⟩
  · cases eq_of_beq h; exact ⟨.bl _, rfl, fun _ _ => .bl _⟩
  · exact ⟨.non, rfl, fun _ _ => .non⟩
  · cases h
theorem atsB_ok : ∀ {vs : List Value} {ds : List PyData}, atsB vs ds = true → ∃ xs, Vals xs vs ∧ ∀ F H, Rps K F H xs ds
  | [], [], _ => ⟨[], .nil, fun _ _ => .nil⟩
  | [], _ :: _, h => by cases h
  | _ :: _, [], h => by cases h
  | v :: vs, d :: ds, h => by
    obtain ⟨h1, h2⟩ := He.ba (show (atB v d && atsB vs ds) = true from h)
    obtain ⟨x, r, p⟩ := atB_ok (K := K) h1
    obtain ⟨xs, rs, ps⟩ := atsB_ok h2
    exact ⟨x :: xs, .cons r rs, fun F H => .cons (p F H) (ps F H)⟩
theorem tupB_ok {a : Addr} {ds : List PyData} (h : tupB K a ds = true) : GTup K a ds := by
  unfold tupB at h
  split at h
  · rename_i q
    obtain ⟨h1, h2⟩ := He.ba h
    obtain ⟨xs, rs, ps⟩ := atsB_ok (K := K) h2
    exact ⟨xs, ⟨_, _, _, q, rfl, rfl, by rw [sizeLine_eq]; exact of_decide_eq_true h1, rs⟩, ps⟩
  · cases h
theorem pf_gtupK {x : Str} {a : Addr} {ds : List PyData} (hg : Gl X x) (hm : X.mg x = some (.ref a)) (t : GTup K a ds) (hd : (x == ("__debug__" : Str)) = false := by decide) : PE X (.Name x pos) (tF K mg W (eC (.tuple ds))) := by
  obtain ⟨xs, st, r⟩ := t.h
  exact pf_c (pe_glob (v := .ref a) hg hm rfl hd) fun F H => .tupK st (r F H)
theorem pf_gstr {x y : Str} (hg : Gl X x) (hm : ∃ t, X.mg x = some (.str y t)) (hd : (x == ("__debug__" : Str)) = false := by decide) : PE X (.Name x pos) (tF K mg W (eC (.str y))) := by
  obtain ⟨t, hm⟩ := hm
  exact pf_c (pe_glob (v := .str y) hg hm ⟨t, rfl⟩ hd) fun _ _ => .str y
end

/-! ### the Hook with the module's tuples -/
structure WtT extends Wt where
  tp : List (Str × List PyData)
def tupsB (K : PySem.W.Frag) (l : List (Str × List PyData)) : Bool := l.all fun e => tupB K (He.ga K e.1) e.2
abbrev AlT : Type := AlP × Bool
def obsT (t : WtT) (K : PySem.W.Frag) : AlT := (obsP t.toWt K, tupsB K t.tp)
def valT (t : WtT) : AlT := (valP t.toWt, true)
def SaysT (t : WtT) (K : PySem.W.Frag) : Prop := obsT t K = valT t
def obsTG (n : Nat) (t : WtT) (g : Addr → Option Obj) : AlT := obsT t (He.frG g (asP g n))
def hookT (n : Nat) (t : WtT) : PySem.W.Hook where
  α := AlT
  obs := fun s => obsTG n t s.heap.get?
  val := fun _ => valT t
  says := fun _ h => ∃ K : PySem.W.Frag, K.In h ∧ SaysT t K
  of := fun _ _ e => ⟨_, He.frG_in, e⟩
  keeps := fun _ _ _ ⟨K, hK, c⟩ k => ⟨K, PySem.W.Frag.In.keeps hK k, c⟩
theorem obsTG_eq {n : Nat} {t : WtT} {g : Addr → Option Obj} {s : Shared} (h : ∀ a, g a = s.heap.get? a) : obsTG n t g = (hookT n t).obs s := by
  have e : g = s.heap.get? := funext h
  rw [e] <;> rfl
section
variable {t : WtT} {K : PySem.W.Frag}
theorem SaysT.p (c : SaysT t K) : SaysP t.toWt K := congrArg (fun z : AlT => z.1) c
theorem SaysT.tps (c : SaysT t K) : ∀ e ∈ t.tp, GTup K (He.ga K e.1) e.2 := fun e he => tupB_ok (List.all_eq_true.mp (show tupsB K t.tp = true from congrArg (fun z : AlT => z.2) c) e he)
end
end Pf
/-! Pf15: sorted(xs) of data alike, any depth. -/
namespace Pf
open PySem PySem.Spec PyProof.Rows L2
section
variable {X : Cx} {K : PySem.W.Frag} {mg : Str → Option Value} {W : WX} {pos : Pos}
def isTup1 : PyData → Bool
  | .tuple (_ :: _) => true
  | _ => false
def notTup : PyData → Bool
  | .none => false
  | .tuple _ => false
  | _ => true
/-- what may be sorted: alike, none of them flat None, few, shallow -/
def okSort (ds : List PyData) : Bool := (ds.all fun d => ds.all fun e => PySem.W.alike d e) && ((ds.all isTup1 || ds.all notTup) && (ds.all fun d => SeqAt.shaped d))
def sortD (ds : List PyData) : List PyData := ds.mergeSort fun a b => !PySem.W.dataLt b a
def sortTN : List PyData → Option (List PyData)
  | [.list ds] => if okSort ds = true then some (sortD ds) else none
  | _ => none
theorem okSort_alike {ds : List PyData} (h : okSort ds = true) : PySem.W.AllAlike ds := by
  obtain ⟨h1, _⟩ := He.ba h
  intro d hd e he
  exact List.all_eq_true.mp (List.all_eq_true.mp h1 d hd) e he
theorem okSort_sortable {ds : List PyData} (h : okSort ds = true) : PySem.W.Sortable ds := by
  obtain ⟨_, h2⟩ := He.ba h
  obtain ⟨h2, _⟩ := He.ba h2
  rcases Bool.or_eq_true_iff.mp h2 with z | z
  · refine .inl fun d hd => ?_
    have q := List.all_eq_true.mp z d hd
    unfold isTup1 at q
    split at q
    · exact ⟨_, _, rfl⟩
    · cases q
  · refine .inr fun d hd => ?_
    have q := List.all_eq_true.mp z d hd
    exact ⟨fun e => (by subst e; cases q), fun xs e => (by subst e; cases q)⟩
theorem okSort_shaped {ds : List PyData} (h : okSort ds = true) : ∀ d ∈ ds, SeqAt.shaped d = true := fun d hd => by
  obtain ⟨_, h2⟩ := He.ba h
  obtain ⟨_, h3⟩ := He.ba h2
  exact List.all_eq_true.mp h3 d hd
/-- sorted(xs) of a list that reads as the ds: the pairs of place and datum, in order -/
def rSortD (K : PySem.W.Frag) : List V → Hp → VK → Prop := fun vs H Q => ∃ (a : Addr) (xs : List V) (ds : List PyData), vs = [V.ref a] ∧ SqL K H a xs ∧ DpAll K H xs ds ∧ okSort ds = true ∧
  ∀ p, H p = none → Q (.ref p) (upd H p (.lst (((xs.zip ds).mergeSort (PySem.W.dataLe false Prod.snd)).map Prod.fst)))
theorem each_of {R : Value → V × PyData → Prop} : ∀ {xs : List V} {us : List Value} {ds : List PyData}, Vals xs us → xs.length = ds.length → (∀ x u d, (x, d) ∈ xs.zip ds → RelV x u → R u (x, d)) → PySem.W.EachIs R us (xs.zip ds)
  | [], _, ds, .nil, hl, _ => by
    cases ds with
    | nil => exact .nil
    | cons _ _ => cases hl
  | x :: xs, _, ds, .cons r t, hl, h => by
    cases ds with
    | nil => cases hl
    | cons d ds => exact .cons (h x _ d (List.mem_cons_self ..) r) (each_of t (by simpa using hl) fun x u d m => h x u d (List.mem_cons_of_mem _ m))
theorem each_vals : ∀ {us : List Value} {bs : List (V × PyData)}, PySem.W.EachIs (fun u b => RelV b.1 u) us bs → Vals (bs.map Prod.fst) us
  | _, _, .nil => .nil
  | _, _, .cons r t => .cons r (each_vals t)
theorem DpAll.length' {K : PySem.W.Frag} {H : Hp} : ∀ {xs : List V} {ds : List PyData}, DpAll K H xs ds → xs.length = ds.length
  | _, _, .nil => rfl
  | _, _, .cons _ t => by simp [DpAll.length' t]
theorem DpAll.at_zip {K : PySem.W.Frag} {H : Hp} : ∀ {xs : List V} {ds : List PyData}, DpAll K H xs ds → ∀ x d, (x, d) ∈ xs.zip ds → Dp K H x d
  | _, _, .nil, _, _, m => by cases m
  | _, _, .cons h t, x, d, m => by
    rcases List.mem_cons.mp m with e | m
    · cases e; exact h
    · exact DpAll.at_zip t x d m
theorem cr_sortD (hu : X.A.units + 66 < cLine) : CallR X (.builtin "sorted") (rSortD X.K) := by
  intro pins s σ H vs us Q I r h
  obtain ⟨a, xs, ds, rfl, hs, hd, ok, q⟩ := h
  obtain ⟨its, rv, hl, hz⟩ := I.list hs
  rw [Vals.ref1 r]
  have hlen := DpAll.length' hd
  have hmap : (xs.zip ds).map Prod.snd = ds := List.map_snd_zip (by omega)
  refine PySem.W.sorted_data (β := V × PyData) (enc := Prod.snd) (R := fun u b => RelV b.1 u) hl.isList (each_of rv hlen fun x u d _ r => r)
    (each_of rv hlen fun x u d m r => Dp.reads I d x u (DpAll.at_zip hd x d m) r) (by rw [hmap]; exact okSort_alike ok) (by rw [hmap]; exact okSort_sortable ok) ?_ ?_ fun out ho e => ?_
  · rw [List.length_zip, hlen, Nat.min_self, ← hlen]; exact hz
  · intro b hb
    have hm : b.2 ∈ ds := (List.of_mem_zip hb).2
    have h1 : (b.2.canLay0 && decide (b.2.depth ≤ 64)) = true := okSort_shaped ok _ hm
    have h2 : b.2.depth ≤ 64 := of_decide_eq_true (Bool.and_eq_true_iff.mp h1).2
    omega
  · have hv := each_vals e
    obtain ⟨ep, he'⟩ := PyProof.Rows.sortedAll_at s.heap its out.toArray
    have hl2 : (((xs.zip ds).mergeSort (PySem.W.dataLe false Prod.snd)).map Prod.fst).length ≤ sizeLine := by
      rw [List.length_map, (List.mergeSort_perm _ _).length_eq, List.length_zip, hlen, Nat.min_self, ← hlen]; exact hz
    exact ⟨.ref _, upd H (s.heap.objs.size + 1) (.lst _), I.laid (t' := s.toks) (fun _ _ => PyProof.Rows.sortedAll_old) (Nat.le_succ _) ⟨hl2, out, ep, hv, he'⟩, rfl, q _ (I.hok.fresh (Nat.le_succ _))⟩
theorem zip_sort_snd {xs : List V} {ds : List PyData} (hl : xs.length = ds.length) : ((xs.zip ds).mergeSort (PySem.W.dataLe false Prod.snd)).map Prod.snd = sortD ds := by
  have hmap : (xs.zip ds).map Prod.snd = ds := List.map_snd_zip (by omega)
  have h := List.map_mergeSort (r := PySem.W.dataLe false Prod.snd) (s := fun a b => !PySem.W.dataLt b a) (f := Prod.snd) (l := xs.zip ds) (fun a _ b _ => rfl)
  rw [hmap] at h
  exact h
theorem Rps.at_zip {K : PySem.W.Frag} {F : Rg} {H : Hp} : ∀ {xs : List V} {ds : List PyData}, Rps K F H xs ds → ∀ b ∈ xs.zip ds, Rp K F H b.1 b.2
  | _, _, .nil, _, m => by cases m
  | _, _, .cons h t, b, m => by
    rcases List.mem_cons.mp m with e | m
    · subst e; exact h
    · exact Rps.at_zip t b m
theorem Rps.of_pairs {K : PySem.W.Frag} {F : Rg} {H : Hp} : ∀ {bs : List (V × PyData)}, (∀ b ∈ bs, Rp K F H b.1 b.2) → Rps K F H (bs.map Prod.fst) (bs.map Prod.snd)
  | [], _ => .nil
  | b :: bs, h => .cons (h b (List.mem_cons_self ..)) (Rps.of_pairs fun c m => h c (List.mem_cons_of_mem _ m))
theorem lay_of_ok {ds : List PyData} (h : okSort ds = true) : PyData.canLayAll0 ds = true := by
  have k := okSort_shaped h
  clear h
  induction ds with
  | nil => rfl
  | cons d ds ih =>
    have h1 := SeqAt.canLay_of_shaped (k d (List.mem_cons_self ..))
    have h2 := ih fun e m => k e (List.mem_cons_of_mem _ m)
    simp only [PyData.canLayAll0, h1, h2, Bool.and_self]
theorem sem_sortT : SemCN K (rSortD K) sortTN := by
  intro F H vs ds z Q rs hs h
  unfold sortTN at hs
  split at hs
  · split at hs
    · rename_i ds ok
      cases hs
      obtain ⟨v, rfl, rv⟩ := rs.one
      obtain ⟨a, xs, rfl, ha, r⟩ := rv.list
      refine ⟨a, xs, ds, rfl, SqL.of ha, Rps.dp ds xs (lay_of_ok ok) r, ok, fun p hn => ?_⟩
      refine h p _ hn ?_
      rw [← zip_sort_snd r.length]
      exact Rps.of_pairs fun b m => Rps.at_zip r b (List.mem_mergeSort.mp m)
    · cases hs
  · cases hs
theorem pf_sortT {e : Expr} {p : Pos} {f : Ro → Res PyData} (hu : X.A.units + 66 < cLine) (hm : X.mg "sorted" = none) (h : PE X e (tB X.K mg W f)) (hg : Gl X "sorted" := by rfl) (hs : starEach [e] X.env = (false, eval e X.env) :: starEach [] X.env := by rfl) (hpl : (backTo pos (starEach [] X.env)).any (·.1) = false := by rfl) : PE X (.Call (.Name "sorted" p) [e] [] pos) (tN X.K mg W (e1 sortTN (eCons f eNil))) :=
  pf_callBN (cr_sortD hu) sem_sortT hg hm (by rfl) (pf_1B h hs) (by decide) (by decide) hs hpl
end
end Pf
/-! Pf16: sum(lists, start); x or y by truth; list(range(..)); stars in tuples. -/
namespace Pf
open PySem PySem.Spec PyProof.Rows L2
section
variable {prog : Program} {w : World} {A : Around} {R : Result → Shared → Prop} {E : Value → Shared → Prop} {I : Addr} {fp wr : List Addr} {n : Nat} {P : Nat → Value → Prop} {St : Nat → Heap → Prop} {h0 : Heap}
/-- all items up to a place, one after the other -/
def catN (its : Nat → List Value) (start : List Value) : Nat → List Value
  | 0 => start
  | k + 1 => catN its start k ++ its k
theorem sum_loopL (W : Walks prog w A.in1 I fp wr n P St) (its : Nat → List Value) (start : List Value) (hP : ∀ i v, P i v → ∃ l c, v = .ref l ∧ PySem.IsL h0 l (its i).toArray c) (S : Addr) (hSf : S ∉ fp) (hS0 : h0.get? S = none) (hw0 : ∀ b ∈ wr, h0.get? b = none)
    (hwr : ∀ i h, St i h → ∀ b ∈ wr, b < h.objs.size) (hz : ∀ k, k ≤ n → (catN its start k).length ≤ sizeLine) :
    ∀ (k i : Nat) (s : Shared) (acc : Addr) (c ca : Nat), n - i = k → i ≤ n → St i s.heap → (∀ b o, h0.get? b = some o → s.heap.get? b = some o) → acc ∉ wr → acc ≠ S → PySem.IsL s.heap acc (catN its start i).toArray ca →
    s.heap.get? S = some { cls := .type "list", dict := none, data := .seq #[.ref acc] c, slots := #[] } →
    (∀ a h' tk ca, (∀ b o, b ∉ wr → b ≠ S → s.heap.get? b = some o → h'.get? b = some o) → PySem.IsL h' a (catN its start n).toArray ca → (i = n → a = acc) → (i < n → h0.get? a = none) → R (.ok (.ret (.ref a))) { s with heap := h', toks := tk }) →
    codeAny (model prog w) A (.builtin "sum.loop" ⟨[.ref I, .ref S, rawInt 2, rawInt 0], []⟩) R s := by
  have hSw : S ∉ wr := fun h => hSf (W.sub _ h)
  have nw : ∀ {b : Addr} {o : Obj}, h0.get? b = some o → b ∉ wr := fun {b o} e hb => by rw [hw0 b hb] at e; cases e
  have nS : ∀ {b : Addr} {o : Obj}, h0.get? b = some o → b ≠ S := fun {b o} e hb => by rw [hb, hS0] at e; cases e
  intro k
  induction k with
  | zero =>
    intro i s acc c ca hk hi hst kp haw haS hacc hS hR
    have hin : i = n := by omega
    subst hin
    refine codeAny_builtin F.entry_sum_loop ?_
    rw [Around.under_plainId F.plain_sum_loop _]
    show wpAny _ A.in1 (seqItems? (.ref S) >>= _) _ _ s
    refine wpAny_bind (wpAny_seqItems hS rfl ?_)
    show wpAny _ A.in1 (tryCatch (pyNext (.ref I)) _ >>= _) _ _ s
    refine wpAny_bind (wpAny_tryCatch (W.done s _ _ hst fun h' tk hk' => ?_))
    exact wpAny_pure (hR acc h' tk ca (fun b o hbw _ e => hk' b o hbw e) (hk' acc _ haw hacc) (fun _ => rfl) (fun h => absurd h (Nat.lt_irrefl _)))
  | succ k ih =>
    intro i s acc c ca hk hi hst kp haw haS hacc hS hR
    have hlt : i < n := by omega
    refine codeAny_builtin F.entry_sum_loop ?_
    rw [Around.under_plainId F.plain_sum_loop _]
    show wpAny _ A.in1 (seqItems? (.ref S) >>= _) _ _ s
    refine wpAny_bind (wpAny_seqItems hS rfl ?_)
    show wpAny _ A.in1 (tryCatch (pyNext (.ref I)) _ >>= _) _ _ s
    refine wpAny_bind (wpAny_tryCatch (W.item i s _ _ hlt hst fun v h' tk hPv hst' hk' => ?_))
    obtain ⟨l, cl, rfl, hl0⟩ := hP i v hPv
    have hl := kp l _ hl0
    have hl' := hk' l _ (nw hl0) hl
    have hacc' := hk' acc _ haw hacc
    have hS' := hk' S _ hSw hS
    have kp' : ∀ b o, h0.get? b = some o → h'.get? b = some o := fun b o e => hk' b o (nw e) (kp b o e)
    show wpAny _ A.in1 ((holding [Value.ref l] (binaryOp .Add (.ref acc) (.ref l))).attempt >>= _) _ _ _
    have hzz := hz (i + 1) (by omega)
    have hcat : catN its start (i + 1) = catN its start i ++ its i := rfl
    rw [hcat, List.length_append] at hzz
    refine wpAny_bind (wpAny_attempt (wpAny_holding (PySem.P.add_list hacc' hl' ?_ (by simpa using hzz))))
    have eq : (catN its start i).toArray ++ (its i).toArray = (catN its start (i + 1)).toArray := by rw [hcat]; simp
    rw [eq]
    show wpAny _ A.in1 (updateSeq S (fun _ => #[Value.ref h'.objs.size]) >>= _) _ _ _
    have hS1 := Heap.get?_push_of_some { cls := .type "list", data := .seq (catN its start (i + 1)).toArray } hS'
    refine wpAny_bind (wpAny_updateSeq hS1 rfl ?_)
    have hS₂ := Heap.get?_update_self (Obj.mapSeq fun _ => #[Value.ref h'.objs.size]) hS1 rfl
    refine wpAny_bind (wpAny_letGo ?_)
    have hSlt : S < h'.objs.size := Heap.lt_size hS'
    have hne : S ≠ h'.objs.size := fun z => absurd (z ▸ hSlt) (Nat.lt_irrefl _)
    have hS3 := Heap.get?_update_self (Obj.mapSeq fun _ => #[Value.ref h'.objs.size]) hS₂ rfl
    generalize hG : ((h'.push { cls := .type "list", data := .seq (catN its start (i + 1)).toArray }).update S (Obj.mapSeq fun _ => #[Value.ref h'.objs.size])).update S (Obj.mapSeq fun _ => #[Value.ref h'.objs.size]) = G at hS3
    have hGk : ∀ b o, b ≠ S → h'.get? b = some o → G.get? b = some o := fun b o hb e => by
      rw [← hG]
      exact (Heap.get?_update_other _ _ (Ne.symm hb)).trans ((Heap.get?_update_other _ _ (Ne.symm hb)).trans (Heap.get?_push_of_some _ e))
    have hacc2 : PySem.IsL G h'.objs.size (catN its start (i + 1)).toArray 0 := by
      rw [← hG]
      exact ((PySem.IsL.new h' _).update_other hne _).update_other hne _
    have hnew : h0.get? h'.objs.size = none := by
      cases e : h0.get? h'.objs.size with
      | none => rfl
      | some o => exact absurd (Heap.lt_size (kp' _ _ e)) (Nat.lt_irrefl _)
    have hnw : h'.objs.size ∉ wr := fun z => absurd (hwr _ _ hst' _ z) (Nat.lt_irrefl _)
    refine wpAny_bind (wpAny_updateSeq hS₂ rfl (wpAny_pure ⟨plainId_quiet F.plain_sum_loop _, ?_⟩))
    show codeAny _ _ _ _ { s with heap := _, toks := tk }
    rw [hG]
    refine ih (i + 1) _ h'.objs.size _ 0 (by omega) hlt (W.frame _ _ _ hst' fun b hb o e => hGk b o (fun h => hSf (by rw [← h]; exact hb)) e) (fun b o e => hGk b o (nS e) (kp' b o e)) hnw (Ne.symm hne) hacc2 hS3 fun a h'' tk'' ca'' hk'' ha1 ha2 ha3 => ?_
    refine hR a h'' tk'' ca'' (fun b o hbw hbS e => hk'' b o hbw hbS (hGk b o hbS (hk' b o hbw e))) ha1 (fun h => absurd h (by omega)) fun _ => ?_
    by_cases q : i + 1 = n
    · rw [ha2 q]; exact hnew
    · exact ha3 (by omega)
theorem args_sum2 (a b : Value) : argsOk "sum" ⟨[a, b], []⟩ := by unfold argsOk; kernel_rfl
theorem call_sumL {s : Shared} {x : Value} {st : Addr} {sl : List Value} {cs : Nat} {Q : Value → Shared → Prop} (hst0 : PySem.IsL s.heap st sl.toArray cs)
    (h : wpAny (model prog w) A.in1 (pyIter x) (fun it s₂ => ∃ I fp wr n P St its, it = .ref I ∧ Walks prog w A.in1 I fp wr n P St ∧ St 0 s₂.heap ∧ (∀ b ∈ fp, b < s₂.heap.objs.size) ∧ (∀ i v, P i v → ∃ l c, v = .ref l ∧ PySem.IsL s.heap l (its i).toArray c) ∧
      (∀ b o, s.heap.get? b = some o → s₂.heap.get? b = some o) ∧ (∀ b ∈ wr, s.heap.get? b = none) ∧ (∀ i h, St i h → ∀ b ∈ wr, b < h.objs.size) ∧ (∀ k, k ≤ n → (catN its sl k).length ≤ sizeLine) ∧
      ∀ a h' tk ca, (∀ b o, b ∉ wr → s₂.heap.get? b = some o → h'.get? b = some o) → PySem.IsL h' a (catN its sl n).toArray ca → (n = 0 → a = st) → (0 < n → s.heap.get? a = none) → Q (.ref a) { s₂ with heap := h', toks := tk }) E s) :
    wpAny (model prog w) A (call (.builtin "sum") [x, .ref st]) Q E s := by
  refine call_function_tree F.kind_sum F.plain_sum F.entry_sum (args_sum2 _ _) ?_
  unfold Builtin.«sum»
  simp only [List.length_cons, List.length_nil]
  rw [if_neg (by decide)]
  refine wpAny_bind (wpAny_of_eq (show Builtin.Builtins.bindParams "sum" ["start"] 0 ⟨[Value.ref st], []⟩ = pure [some (Value.ref st)] from rfl) ?_)
  refine wpAny_bind (wpAny_mono h (fun it s₂ h₂ => ?_) fun _ _ e => e)
  obtain ⟨I, fp, wr, n, P, St, its, rfl, W, hst, hfp, hP, kp, hw0, hwr, hz, hQ⟩ := h₂
  have hs2 := kp _ _ hst0
  have ty : s₂.TypeIs (.ref st) "list" := ⟨_, hs2, rfl⟩
  refine wpAny_bind (wpAny_pure ?_)
  simp only [List.forIn_cons, List.forIn_nil]
  refine wpAny_bind (wpAny_bind (wpAny_bind (wpAny_isInstance (T := "list") (b := false) ty F.sub_list_str ?_)))
  simp only [Bool.false_eq_true, if_false]
  refine wpAny_pure (wpAny_bind (wpAny_bind (wpAny_isInstance (T := "list") (b := false) ty F.sub_list_bytes ?_)))
  simp only [Bool.false_eq_true, if_false]
  refine wpAny_pure (wpAny_bind (wpAny_bind (wpAny_isInstance (T := "list") (b := false) ty F.sub_list_bytearray ?_)))
  simp only [Bool.false_eq_true, if_false]
  refine wpAny_pure (wpAny_pure ?_)
  refine wpAny_bind (wpAny_newObj_type ?_)
  have hSf : s₂.heap.objs.size ∉ fp := fun hm => Nat.lt_irrefl _ (hfp _ hm)
  have hS0 : s.heap.get? s₂.heap.objs.size = none := by
    cases e : s.heap.get? s₂.heap.objs.size with
    | none => rfl
    | some o => exact absurd (Heap.lt_size (kp _ _ e)) (Nat.lt_irrefl _)
  have hstw : st ∉ wr := fun z => by
    have h1 : s.heap.get? st = some _ := hst0
    rw [hw0 _ z] at h1; cases h1
  have hstS : st ≠ s₂.heap.objs.size := fun z => by
    have h1 : s.heap.get? st = some _ := hst0
    rw [z, hS0] at h1; cases h1
  refine wpAny_pure ⟨plainId_quiet F.plain_sum_loop _, sum_loopL (h0 := s.heap) W its sl hP s₂.heap.objs.size hSf hS0 hw0 hwr hz n 0 _ st 0 cs rfl (Nat.zero_le _)
    (W.frame 0 _ _ hst fun b _ o e => Heap.get?_push_of_some _ e) (fun b o e => Heap.get?_push_of_some _ (kp b o e)) hstw hstS (Heap.get?_push_of_some _ hs2) (Heap.get?_push_size _ rfl) fun a h' tk ca hk ha1 ha2 ha3 => ?_⟩
  refine hQ a h' tk ca (fun b o hb e => hk b o hb (fun z => ?_) (Heap.get?_push_of_some _ e)) ha1 (fun q => ha2 q.symm) ha3
  exact absurd (z ▸ Heap.lt_size e) (Nat.lt_irrefl _)
end
theorem objOk_ex {prog : Program} {w : World} {H : Hp} {h : Heap} {a : Addr} {o : HO} (x : ObjOk prog w H h a o) : ∃ u, h.get? a = some u := by
  cases o with
  | lst xs => obtain ⟨z, its, n, r, e⟩ := x; exact ⟨_, e⟩
  | tup xs => obtain ⟨z, its, r, ob, e, c⟩ := x; exact ⟨_, e⟩
  | dK kvs => obtain ⟨z, y, vs, r, ob, es, ep, e, c⟩ := x; exact ⟨_, e⟩
  | dT kvs => obtain ⟨z, y, xs, r, ob, es, ep, e, c⟩ := x; exact ⟨_, e⟩
  | set S n => obtain ⟨ob, es, ep, t, e, c⟩ := x; exact ⟨_, e⟩
  | ins C dx fs => obtain ⟨d, z, ne, e, mA, q, r⟩ := x; exact ⟨_, e⟩
  | own y => obtain ⟨ob, e⟩ := x; exact ⟨_, e⟩
  | xd fs => obtain ⟨mA, ⟨od, es, ep, e, c⟩, r⟩ := x; exact ⟨_, e⟩
  | rng lo hi => obtain ⟨t, u, v, e⟩ := x; exact ⟨_, e⟩
  | frz ob u => obtain ⟨e, q⟩ := x; exact ⟨_, e⟩
  | tbl ps => exact ⟨_, x⟩
  | met f y => exact ⟨_, x⟩
  | ext φ => obtain ⟨p, ⟨o, e⟩, st⟩ := x; exact ⟨_, e⟩
/-! ### the call by values -/
def rSumL (K : PySem.W.Frag) : List V → Hp → VK → Prop := fun vs H Q => ∃ (a b : Addr) (xs : List V) (yss : List (List V)) (ys : List V), vs = [.ref a, .ref b] ∧ SqL K H a xs ∧ H b = some (.lst ys) ∧ Paired (fun x zs => ∃ l, x = V.ref l ∧ H l = some (.lst zs)) xs yss ∧ ys.length + (yss.map List.length).sum ≤ sizeLine ∧
  (xs = [] → Q (.ref b) H) ∧ (xs ≠ [] → ∀ p, H p = none → Q (.ref p) (upd H p (.lst (ys ++ yss.flatten))))
section
variable {X : Cx}
theorem paired_at {α β : Type} {Rl : α → β → Prop} : ∀ {xs : List α} {ys : List β} {i : Nat} {x : α}, Paired Rl xs ys → xs[i]? = some x → ∃ y, ys[i]? = some y ∧ Rl x y
  | _, _, _, _, .nil, e => by simp at e
  | _, _, 0, _, .cons a b, e => by simp at e; subst e; exact ⟨_, rfl, a⟩
  | _, _, i + 1, _, .cons a b, e => by
    have := paired_at (i := i) b (by simpa using e)
    simpa using this
theorem paired_len {α β : Type} {Rl : α → β → Prop} : ∀ {xs : List α} {ys : List β}, Paired Rl xs ys → xs.length = ys.length
  | _, _, .nil => rfl
  | _, _, .cons a b => by simp [paired_len b]
theorem raws_of {s : Shared} {pins : List (Addr × Obj)} {σ : L2.St} {H : Hp} (I : Inv X pins σ H s) : ∀ {xs : List V} {yss : List (List V)} {us : List Value}, Paired (fun x zs => ∃ l, x = V.ref l ∧ H l = some (.lst zs)) xs yss → Vals xs us →
    ∃ raws : List (List Value), raws.length = us.length ∧ (∀ i u, us[i]? = some u → ∃ l c, u = .ref l ∧ PySem.IsL s.heap l (raws.getD i []).toArray c) ∧ Vals yss.flatten raws.flatten
  | _, _, _, .nil, .nil => ⟨[], rfl, fun i u h => by simp at h, .nil⟩
  | _, _, _, .cons a b, .cons r t => by
    obtain ⟨raws, h1, h2, h3⟩ := raws_of I b t
    obtain ⟨l, rfl, hl⟩ := a
    obtain ⟨z, its, n, rv, _, e⟩ := I.lstM hl
    cases r
    refine ⟨its :: raws, by simp [h1], fun i u h => ?_, ?_⟩
    · cases i with
      | zero => simp at h; subst h; exact ⟨l, n, rfl, e⟩
      | succ i => exact h2 i u (by simpa using h)
    · rw [List.flatten_cons, List.flatten_cons]
      exact rv.append h3
theorem catN_eq (raws : List (List Value)) (st : List Value) : ∀ k, catN (fun i => raws.getD i []) st k = st ++ (raws.take k).flatten
  | 0 => by simp [catN]
  | k + 1 => by
    show catN _ st k ++ raws.getD k [] = _
    rw [catN_eq raws st k, List.append_assoc]
    congr 1
    by_cases h : k < raws.length
    · rw [List.take_succ, List.flatten_append, List.getD_eq_getElem?_getD, List.getElem?_eq_getElem h]; simp
    · rw [List.take_of_length_le (by omega), List.take_of_length_le (by omega), List.getD_eq_getElem?_getD, List.getElem?_eq_none (by omega)]; simp
theorem flat_len {α : Type} : ∀ l : List (List α), l.flatten.length = (l.map List.length).sum
  | [] => rfl
  | x :: l => by rw [List.flatten_cons, List.length_append, flat_len l, List.map_cons, List.sum_cons]
theorem take_flat_le {α : Type} (l : List (List α)) (k : Nat) : (l.take k).flatten.length ≤ l.flatten.length := by
  have : l.flatten = (l.take k).flatten ++ (l.drop k).flatten := by rw [← List.flatten_append, List.take_append_drop]
  rw [this, List.length_append]; omega
theorem cr_sumL (hc : X.calm = true) : CallR X (.builtin "sum") (rSumL X.K) := by
  intro pins s σ H vs us Q I r h
  obtain ⟨a, b, xs, yss, ys, rfl, hs, hb, hp, hz, q0, q1⟩ := h
  obtain ⟨us1, us2, rfl⟩ : ∃ u v, us = [u, v] := by
    cases r with
    | cons r1 t => cases t with
      | cons r2 t2 => cases t2; exact ⟨_, _, rfl⟩
  cases r with
  | cons r1 t => cases t with
    | cons r2 t2 =>
      cases t2
      cases r1
      cases r2
      obtain ⟨its, rv, hl, hzz⟩ := I.list hs
      obtain ⟨zb, itb, nb, rb, hlb, eb⟩ := I.lstM hb
      have hlen := rv.length
      have hlen2 := paired_len hp
      obtain ⟨raws, w1, w2, w3⟩ := raws_of I hp rv
      have hfl : raws.flatten.length = (yss.map List.length).sum := by rw [← w3.length, flat_len]
      refine call_sumL eb (iter_anyList hl.isList fun s₂ e st hfp hlI => ?_)
      subst e
      refine ⟨_, _, _, _, _, _, (fun i => raws.getD i []), rfl, Walks.list (A := X.A.in1) (I.ok.hd hc) _ a hlI its.toArray, st, hfp, fun i v hv => ?_, (fun b o e => Heap.get?_push_of_some _ e), fun b hb => ?_, fun i h hst b hb => ?_, fun k hk => ?_, fun p h' tk ca hk hL hz0 hpos => ?_⟩
      · exact w2 i v (by simpa using hv)
      · rcases List.mem_singleton.mp hb with rfl
        cases e : s.heap.get? s.heap.objs.size with
        | none => rfl
        | some o => exact absurd (Heap.lt_size e) (Nat.lt_irrefl _)
      · rcases List.mem_singleton.mp hb with rfl
        obtain ⟨⟨o, ho, _⟩, _⟩ := hst
        exact Heap.lt_size ho
      · rw [catN_eq, List.length_append]
        have := take_flat_le raws k
        have h1 : itb.length = ys.length := rb.length.symm
        omega
      · have kk := old_kept hk
        by_cases hx : xs = []
        · have : its.toArray.size = 0 := by subst hx; simp at hlen; simp [hlen]
          rw [hz0 this]
          exact ⟨.ref b, H, I.kept kk, rfl, q0 hx⟩
        · have hn : 0 < its.toArray.size := by
            have : 0 < xs.length := List.length_pos_iff.mpr hx
            simp; omega
          have ha := hpos hn
          have hHa : H p = none := by
            cases e : H p with
            | none => rfl
            | some o =>
              obtain ⟨u, hu⟩ := objOk_ex (I.hok p o e)
              rw [ha] at hu; cases hu
          have hall : catN (fun i => raws.getD i []) itb its.toArray.size = itb ++ raws.flatten := by
            rw [catN_eq, List.take_of_length_le (by simp; omega)]
          rw [hall] at hL
          have hl2 : (ys ++ yss.flatten).length ≤ sizeLine := by rw [List.length_append, flat_len]; exact hz
          exact ⟨.ref p, upd H p (.lst (ys ++ yss.flatten)), I.laidN kk ha hHa ⟨hl2, _, _, rb.append w3, hL⟩, rfl, q1 hx p hHa⟩
end
section
def listsO : List PyData → Option (List (List PyData))
  | [] => some []
  | .list xs :: ds => (listsO ds).map (xs :: ·)
  | _ => none
def sumLD : List PyData → Option PyData
  | [.list ds, .list ys] => (listsO ds).bind fun xss => if ys.length + (xss.map List.length).sum ≤ 16777216 then some (.list (ys ++ xss.flatten)) else none
  | _ => none
variable {K : PySem.W.Frag} {F : Rg} {H : Hp}
theorem lists_of : ∀ {ds : List PyData} {dss : List (List PyData)} {vs : List V}, listsO ds = some dss → Rps K F H vs ds → ∃ yss : List (List V), Paired (fun x zs => ∃ l, x = V.ref l ∧ H l = some (.lst zs)) vs yss ∧ yss.map List.length = dss.map List.length ∧ Rps K F H yss.flatten dss.flatten
  | [], dss, vs, e, r => by
    cases e
    cases r
    exact ⟨[], .nil, rfl, .nil⟩
  | d :: ds, dss, vs, e, r => by
    cases d with
    | list xs =>
      have e : (listsO ds).map (xs :: ·) = some dss := e
      cases e2 : listsO ds with
      | none => rw [e2] at e; cases e
      | some zs =>
        rw [e2] at e
        cases e
        cases r with
        | cons a b =>
          obtain ⟨yss, h1, h2, h3⟩ := lists_of e2 b
          cases a with
          | @lst a ys _ f q rr => exact ⟨ys :: yss, .cons ⟨_, rfl, q⟩ h1, by simp [h2, rr.length], by rw [List.flatten_cons, List.flatten_cons]; exact rr.append h3⟩
    | _ => cases e
variable {X : Cx} {mg : Str → Option Value} {W : WX} {pos : Pos}
theorem pf_sumL {a b : Expr} {p : Pos} {f g : Ro → Res PyData} (hc : X.calm = true) (hm : X.mg "sum" = none) (ha : PE X a (tF X.K mg W f)) (hb : PE X b (tF X.K mg W g)) (hg : Gl X "sum" := by rfl) (hs : starEach [a, b] X.env = (false, eval a X.env) :: starEach [b] X.env := by rfl) (hs2 : starEach [b] X.env = (false, eval b X.env) :: starEach [] X.env := by rfl) (hpl : (backTo pos (starEach [b] X.env)).any (·.1) = false := by rfl) :
    PE X (.Call (.Name "sum" p) [a, b] [] pos) (tF X.K mg W (e1 sumLD (eCons f (eCons g eNil)))) :=
  (pe_callB (cr_sumL hc) hg hm (by rfl) (pf_cons ha (pf_cons hb pf_nil hs2) hs) (by decide) (by decide) hs hpl).imp fun σ H Q ⟨B, F0, F, ρ, S, p⟩ => by
    refine tAs.mk S p fun ds F1 H1 vs _ st rs p => ?_
    obtain ⟨z, ez, q⟩ := p.ofO
    unfold sumLD at ez
    split at ez
    · rename_i xs ys e0
      cases e2 : listsO xs with
      | none => rw [e2] at ez; cases ez
      | some xss =>
        rw [e2] at ez
        simp only [Option.bind_some] at ez
        split at ez
        · rename_i hl
          cases ez
          cases rs with
          | cons r1 t => cases t with
            | cons r2 t2 =>
              cases t2
              cases r1 with
              | @lst a1 us _ f1 q1 rr1 => cases r2 with
                | @lst a2 ws _ f2 q2 rr2 =>
                  obtain ⟨yss, h1, h2, h3⟩ := lists_of e2 rr1
                  refine ⟨a1, a2, us, yss, ws, rfl, SqL.of q1, q2, h1, by rw [h2, rr2.length, sizeLine_eq]; exact hl, fun hn => ?_, fun hn p hp => ?_⟩
                  · have : xss = [] := by
                      subst hn
                      have := rr1.length
                      cases xs with
                      | nil => cases e2; rfl
                      | cons _ _ => simp at this
                    subst this
                    refine q F1 H1 _ st ?_
                    simp only [List.flatten_nil, List.append_nil]
                    exact .lst f2 q2 rr2
                  · exact q _ _ _ (st.trans (Stp.add hp)) (.lst (.inr rfl) upd_same ((rr2.append h3).stp (Stp.add hp)))
        · cases ez
    · cases ez
/-! ### x or y, x and y, as values -/
def truD : PyData → Option Bool
  | .none => some false
  | .bool b => some b
  | .int i => some (i != 0)
  | .list xs => some (!xs.isEmpty)
  | .tuple xs => some (!xs.isEmpty)
  | _ => none
theorem isEmpty_rps {vs : List V} {ds : List PyData} (r : Rps K F H vs ds) : (!ds.isEmpty) = !vs.isEmpty := by
  cases r <;> rfl
theorem truV_of {v : V} {d : PyData} {k : Bool} (r : RpB K F H v d) (e : truD d = some k) : TruV K v H k := by
  cases d with
  | none => rw [r.none']; cases e; rfl
  | bool b => rw [r.bool']; cases e; rfl
  | int i => rw [r.int']; cases e; rfl
  | list xs =>
    obtain ⟨a, us, rfl, q, rr⟩ := r.list
    cases e
    exact .inl ⟨us, SqL.of q, isEmpty_rps rr⟩
  | tuple xs =>
    obtain ⟨a, us, rfl, q, rr⟩ := r.tuple
    cases e
    exact .inr (.inl ⟨us, q, isEmpty_rps rr⟩)
  | _ => cases e
def eOrV (f g : Ro → Res PyData) : Ro → Res PyData := fun ρ => (f ρ).bind fun d => (ofO (truD d)).bind fun k => if k = true then .ok d else g ρ
def eAndV (f g : Ro → Res PyData) : Ro → Res PyData := fun ρ => (f ρ).bind fun d => (ofO (truD d)).bind fun k => if k = true then g ρ else .ok d
theorem pf_orV {a b : Expr} {rest : List Expr} {f g : Ro → Res PyData} (ha : PE X a (tF X.K mg W f)) (hb : PE X (.BoolOp .Or (b :: rest) pos) (tF X.K mg W g)) : PE X (.BoolOp .Or (a :: b :: rest) pos) (tF X.K mg W (eOrV f g)) :=
  (pe_orT ha hb).imp fun σ H Q ⟨B, F0, F, ρ, S, p⟩ => by
    refine tE.mk S p fun d F1 H1 v _ st r p => ?_
    cases ek : truD d with
    | none => rw [ek] at p; exact p.elim
    | some k =>
      rw [ek] at p
      simp only [ofO_some, Res.bind_ok] at p
      refine ⟨k, truV_of (.rp r) ek, ?_⟩
      cases k with
      | true =>
        simp only [if_true] at p ⊢
        exact p F1 H1 v st r
      | false =>
        simp only [Bool.false_eq_true, if_false] at p ⊢
        exact ⟨B, F0, F1, ρ, S.stp st, (p.mono st.keep).imp fun d' q F' H' v' s r' => q F' H' v' (st.trans s) r'⟩
theorem pf_andV {a b : Expr} {rest : List Expr} {f g : Ro → Res PyData} (ha : PE X a (tF X.K mg W f)) (hb : PE X (.BoolOp .And (b :: rest) pos) (tF X.K mg W g)) : PE X (.BoolOp .And (a :: b :: rest) pos) (tF X.K mg W (eAndV f g)) :=
  (pe_andT ha hb).imp fun σ H Q ⟨B, F0, F, ρ, S, p⟩ => by
    refine tE.mk S p fun d F1 H1 v _ st r p => ?_
    cases ek : truD d with
    | none => rw [ek] at p; exact p.elim
    | some k =>
      rw [ek] at p
      simp only [ofO_some, Res.bind_ok] at p
      refine ⟨k, truV_of (.rp r) ek, ?_⟩
      cases k with
      | true =>
        simp only [if_true] at p ⊢
        exact ⟨B, F0, F1, ρ, S.stp st, (p.mono st.keep).imp fun d' q F' H' v' s r' => q F' H' v' (st.trans s) r'⟩
      | false =>
        simp only [Bool.false_eq_true, if_false] at p ⊢
        exact p F1 H1 v st r
theorem pf_v1V {op} {a : Expr} {f : Ro → Res PyData} (ha : PE X a (tF X.K mg W f)) : PE X (.BoolOp op [a] pos) (tF X.K mg W f) := pe_one ha
/-- tuples with stars -/
theorem pf_tupV {es : List Expr} {x1} {g : Ro → Res (List PyData)} (h : PA X es (tAs K mg W g)) : PE X (.Tuple es x1 pos) (tF K mg W (e1 tupOk g)) :=
  (pe_tup h).imp fun σ H Q ⟨B, F0, F, ρ, S, p⟩ => by
    refine tAs.mk S p fun ds F1 H1 xs e st rxs q => ?_
    obtain ⟨z, ez, q⟩ := q.ofO
    unfold tupOk at ez
    split at ez
    · rename_i hl
      cases ez
      refine ⟨?_, fun a ha => ?_⟩
      · rw [rxs.length, sizeLine_eq]; exact hl
      · exact q _ _ _ (st.trans (Stp.add ha)) (.tup (.inr rfl) upd_same (rxs.stp (Stp.add ha)))
    · cases ez
end
section
variable {X : Cx} {mg : Str → Option Value} {W : WX} {pos : Pos}
def lrg1 : PyData → Option (List PyData)
  | .int n => if -4611686018427387904 ≤ n ∧ n ≤ 16777216 then some (rngL 0 n.toNat) else none
  | _ => none
theorem rgV_rps {K : PySem.W.Frag} {F : Rg} {H : Hp} (n : Int) : Rps K F H (rgV 0 n) (rngL 0 n.toNat) := by
  have e1 : rgV 0 n = ((List.range n.toNat).map fun i => (0 + ((i : Nat) : Int))).map V.int := by unfold rgV; simp
  have e2 : rngL 0 n.toNat = ((List.range n.toNat).map fun i => (0 + ((i : Nat) : Int))).map PyData.int := by unfold rngL; simp
  rw [e1, e2]; exact Rps.of_ints
theorem pf_listRg1 {a : Expr} {p p2 pos2 : Pos} {f : Ro → Res PyData} (hc : X.calm = true) (hm : X.mg "list" = none) (hm2 : X.mg "range" = none) (ha : PE X a (tB X.K mg W f)) (hg : Gl X "list" := by rfl) (hg2 : Gl X "range" := by rfl) (hs : starEach [a] X.env = (false, eval a X.env) :: starEach [] X.env := by rfl)
    (hs2 : starEach [.Call (.Name "range" p2) [a] [] pos2] X.env = (false, eval (.Call (.Name "range" p2) [a] [] pos2) X.env) :: starEach [] X.env := by rfl) :
    PE X (.Call (.Name "list" p) [.Call (.Name "range" p2) [a] [] pos2] [] pos) (tN X.K mg W (e1 lrg1 f)) :=
  (pe_listRg hc hg hm (prg_1 hg2 hm2 ha hs) hs2).imp fun σ H Q ⟨B, F0, F, ρ, S, p⟩ => by
    refine tE.mk S p fun d F1 H1 v _ st r p => ?_
    obtain ⟨z, ez, q⟩ := p.ofO
    cases d with
    | int n =>
      have ez : (if _ then _ else _) = some z := ez
      split at ez
      · rename_i hn
        cases ez
        refine ⟨n, r.int', ⟨by omega, by omega, by omega, by omega, by omega⟩, fun p hp => ?_⟩
        exact q _ _ _ (st.trans (Stp.lay hp)) ⟨p, _, rfl, st.keep.free hp, fun z => (S.stp st).trk p z hp, upd_same, rgV_rps n⟩
      · cases ez
    | _ => cases ez
end
end Pf
/-! LawC: what the laws have in common: draws, mixes, fractions. -/
namespace LawC
open PySem PySem.Spec PyProof.Rows L2 Pf

def m__law_draws : List PyData → Res PyData := mDef 1 5 (
 sSeq (sSetN 1 (eNil))
      (sSeq (sFor (e1 rg1 (eCons (e1 min2D (eCons (eC (.int 63)) (eCons (e1 lenD (eCons (eVarB 0) eNil)) eNil))) (eNil))) (gSet 2)
      (sSeq (sSet 3 (e1 absD (eCons (e2 ixD (eVarB 0) (eVarB 2)) eNil)))
      (sIf (eTb (e2 geD (eVarB 3) (e2 powD (eC (.int 10)) (eC (.int 18)))))
      (sFor (e1 rg1 (eCons (eC (.int 60)) (eNil))) (gSet 4)
      (sIf (eTb (e2 gtD (eVarB 3) (eC (.int 0))))
      (sSeq (sApp 1 (e2 modD (e1 intD (eCons (eVarB 3) eNil)) (eC (.int 65536))))
      (sSet 3 (e2 divD (eVarB 3) (eC (.int 65536)))))
      (sPass)))
      (sSeq (sSet 5 (e2 modD (e1 intD (eCons (e2 addD (e2 mulD (eVarB 3) (eC (.int 48271))) (e2 mulD (e2 addD (eVarB 2) (eC (.int 1))) (eC (.int 69621)))) eNil)) (eC (.int 2147483647))))
      (sSeq (sSet 5 (e2 modD (e1 intD (eCons (e2 addD (e2 addD (e2 mulD (eVarB 5) (eC (.int 16807))) (e2 mulD (eC (.int 11)) (eVarB 2))) (eC (.int 5))) eNil)) (eC (.int 2147483629))))
      (sSeq (sApp 1 (e2 modD (e1 intD (eCons (eVarB 5) eNil)) (eC (.int 65536))))
      (sApp 1 (e2 modD (e1 intD (eCons (e2 divD (eVarB 5) (eC (.int 65536))) eNil)) (eC (.int 32768))))))))))
      (sFrz [1] (sRet (eVar 1)))))
def m__law_mix : List PyData → Res PyData := mDef 3 1 (
 sSeq (sSet 3 (eC (.int 0)))
      (sSeq (sIf (eTb (e2 gtD (e1 lenD (eCons (eVarB 0) eNil)) (eC (.int 0))))
      (sSet 3 (e2 ixD (eVarB 0) (e2 modD (e1 intD (eCons (eVarB 1) eNil)) (e1 lenD (eCons (eVarB 0) eNil)))))
      (sPass))
      (sSeq (sIf (eTb (e2 ltD (eVarB 1) (e1 lenD (eCons (eVarB 0) eNil))))
      (sRet (e2 modD (e1 intD (eCons (eVarB 3) eNil)) (eVarB 2)))
      (sPass))
      (sRet (e2 modD (e1 intD (eCons (e2 divD (e1 intD (eCons (e2 addD (e2 mulD (eVarB 3) (eC (.int 7919))) (e2 mulD (eVarB 1) (eC (.int 104729)))) eNil)) (eC (.int 3))) eNil)) (eVarB 2))))))
def m__law_common : List PyData → Res PyData := mDef 2 3 (
 sSeq (sParM [2, 3] (mVal (e1 absD (eCons (eVarB 0) eNil)) (mVal (e1 absD (eCons (eVarB 1) eNil)) (mNil))))
      (sSeq (sFor (e1 rg1 (eCons (eC (.int 400)) (eNil))) (gSet 4)
      (sIf (eTb (e2 gtD (eVarB 3) (eC (.int 0))))
      (sParM [2, 3] (mVal (eVar 3) (mVal (e2 modD (e1 intD (eCons (eVarB 2) eNil)) (eVarB 3)) (mNil))))
      (sPass)))
      (sRet (e1 max2D (eCons (eC (.int 1)) (eCons (eVarB 2) eNil))))))
def m__law_low : List PyData → Res PyData := mDef 2 1 (
 sSeq (sSet 2 (e2 mulD (eCall m__law_common (eCons (eVar 0) (eCons (eVar 1) (eNil)))) (e2 ixD (e1 listD (eCons (eC (.int 1)) (eCons (e1 negD (eC (.int 1))) (eNil)))) (e1 intD (eCons (e2 ltD (eVarB 1) (eC (.int 0))) eNil)))))
      (sRet (e1 tupD (eCons (e2 divD (eVarB 0) (eVarB 2)) (eCons (e2 divD (eVarB 1) (eVarB 2)) (eNil))))))
def m__law_add : List PyData → Res PyData := mDef 2 0 (
 sRet (eCall m__law_low (eCons (e2 addD (e2 mulD (e2 ixD (eVarB 0) (eC (.int 0))) (e2 ixD (eVarB 1) (eC (.int 1)))) (e2 mulD (e2 ixD (eVarB 1) (eC (.int 0))) (e2 ixD (eVarB 0) (eC (.int 1))))) (eCons (e2 mulD (e2 ixD (eVarB 0) (eC (.int 1))) (e2 ixD (eVarB 1) (eC (.int 1)))) (eNil)))))
def m__law_times : List PyData → Res PyData := mDef 2 0 (
 sRet (eCall m__law_low (eCons (e2 mulD (e2 ixD (eVarB 0) (eC (.int 0))) (e2 ixD (eVarB 1) (eC (.int 0)))) (eCons (e2 mulD (e2 ixD (eVarB 0) (eC (.int 1))) (e2 ixD (eVarB 1) (eC (.int 1)))) (eNil)))))
def m__law_sum : List PyData → Res PyData := mDef 1 2 (
 sSeq (sSet 1 (e1 tupD (eCons (eC (.int 0)) (eCons (eC (.int 1)) (eNil)))))
      (sSeq (sFor (e1 itL (eVar 0)) (gSet 2)
      (sSet 1 (eCall m__law_add (eCons (eVar 1) (eCons (eVar 2) (eNil))))))
      (sRet (eVar 1))))
def m_common : List PyData → Res PyData := mDef 2 2 (
 sSeq (sParM [2, 3] (mVal (e1 absD (eCons (eVarB 0) eNil)) (mVal (e1 absD (eCons (eVarB 1) eNil)) (mNil))))
      (sSeq (sWhile 100000 (eTb (e2 gtD (eVarB 3) (eC (.int 0))))
      (sParM [2, 3] (mVal (eVar 3) (mVal (e2 modD (eVarB 2) (eVarB 3)) (mNil)))))
      (sRet (eVar 2))))
def m_plain : List PyData → Res PyData := mDef 2 1 (
 sSeq (sSet 2 (eCall m_common (eCons (eVar 0) (eCons (eVar 1) (eNil)))))
      (sRet (e1 tupD (eCons (e2 divD (eVarB 0) (eVarB 2)) (eCons (e2 divD (eVarB 1) (eVarB 2)) (eNil))))))

abbrev intsD (ns : List Int) : PyData := .list (ns.map .int)
abbrev frD (p : Int × Int) : PyData := .tuple [.int p.1, .int p.2]

/-! ### mixes -/
theorem atI_mod {ds : List Int} {k : Int} (hp : 0 < ds.length) : ∃ x, atI ds (k % ds.length) = some x ∧ x ∈ ds := by
  have h1 : 0 ≤ k % (ds.length : Int) := Int.emod_nonneg _ (by omega)
  have h2 : k % (ds.length : Int) < ds.length := Int.emod_lt_of_pos _ (by omega)
  have h3 : (k % (ds.length : Int)).toNat < ds.length := by omega
  exact ⟨_, atI_at h1 (List.getElem?_eq_getElem h3), List.getElem_mem h3⟩
theorem natAbs_lt {a : Int} {n : Nat} (h0 : -(n : Int) < a) (h1 : a < n) : a.natAbs < n := by omega
theorem mix_ok (ds : List Int) (k many : Int) (hk : 0 ≤ k) (hk2 : k < 1000000) (hm : 0 < many) (hb : ∀ x ∈ ds, 0 ≤ x ∧ x < 65536) : ∃ r : Int, m__law_mix [intsD ds, .int k, .int many] = .ok (.int r) ∧ 0 ≤ r ∧ r < many := by
  have hmod : ∀ z : Int, 0 ≤ z % many ∧ z % many < many := fun z => ⟨Int.emod_nonneg _ (by omega), Int.emod_lt_of_pos _ hm⟩
  -- the cell
  obtain ⟨cell, hc0, hc1, hcell⟩ : ∃ cell : Int, 0 ≤ cell ∧ cell < 65536 ∧ m__law_mix [intsD ds, .int k, .int many] = outR ((sSeq (sIf (eTb (e2 ltD (eVarB 1) (e1 lenD (eCons (eVarB 0) eNil))))
      (sRet (e2 modD (e1 intD (eCons (eVarB 3) eNil)) (eVarB 2))) (sPass))
      (sRet (e2 modD (e1 intD (eCons (e2 divD (e1 intD (eCons (e2 addD (e2 mulD (eVarB 3) (eC (.int 7919))) (e2 mulD (eVarB 1) (eC (.int 104729)))) eNil)) (eC (.int 3))) eNil)) (eVarB 2)))) [.val (intsD ds), .val (.int k), .val (.int many), .val (.int cell)]) := by
    by_cases hp : 0 < ds.length
    · obtain ⟨x, hx, hxm⟩ := atI_mod (k := k) hp
      refine ⟨x, (hb x hxm).1, (hb x hxm).2, ?_⟩
      have hp' : (0 : Int) < (ds.length : Int) := by omega
      simp [m__law_mix, hp, hx, modD_int hp']
    · refine ⟨0, by omega, by omega, ?_⟩
      simp [m__law_mix, hp]
  have o1 : okMul cell 7919 = true := okMul_of (k := 17) (l := 13) (by omega) (by decide)
  have o2 : okMul k 104729 = true := okMul_of (k := 20) (l := 17) (by omega) (by decide)
  have e3 : ∀ z : Int, divD (.int z) (.int 3) = some (.int (z / 3)) := fun z => divD_int (by decide) (by decide)
  rw [hcell]
  by_cases hl : k < ds.length
  · refine ⟨cell % many, ?_, hmod _⟩
    simp [hl, modD_int hm]
  · refine ⟨((cell * 7919 + k * 104729) / 3) % many, ?_, hmod _⟩
    simp [hl, mulD_int o1, mulD_int o2, e3, modD_int hm]

def mixF (ds : List Int) (k many : Int) : Int := match m__law_mix [intsD ds, .int k, .int many] with
  | .ok (.int r) => r
  | _ => 0
theorem mixF_ok {ds : List Int} {k many : Int} (hk : 0 ≤ k) (hk2 : k < 1000000) (hm : 0 < many) (hb : ∀ x ∈ ds, 0 ≤ x ∧ x < 65536) : m__law_mix [intsD ds, .int k, .int many] = .ok (.int (mixF ds k many)) ∧ 0 ≤ mixF ds k many ∧ mixF ds k many < many := by
  obtain ⟨r, h1, h2, h3⟩ := mix_ok ds k many hk hk2 hm hb
  have : mixF ds k many = r := by unfold mixF; rw [h1]
  rw [this]
  exact ⟨h1, h2, h3⟩

/-! ### draws -/
def Dr (ds : List Int) : Prop := ds.length ≤ 3780 ∧ ∀ x ∈ ds, 0 ≤ x ∧ x < 65536
theorem draws_ok (ns : List Int) (hn : ns.length ≤ 63) : ∃ ds : List Int, m__law_draws [scr ns] = .ok (intsD ds) ∧ Dr ds := by
  have he3 : ∀ z : Int, divD (.int z) (.int 65536) = some (.int (z / 65536)) := fun z => divD_int (by decide) (by decide)
  have hmod : ∀ z : Int, 0 ≤ z % 65536 ∧ z % 65536 < 65536 := fun z => ⟨Int.emod_nonneg _ (by decide), Int.emod_lt_of_pos _ (by decide)⟩
  have hmod2 : ∀ z : Int, 0 ≤ z % 32768 ∧ z % 32768 < 65536 := fun z => ⟨Int.emod_nonneg _ (by decide), Int.lt_trans (Int.emod_lt_of_pos _ (by decide)) (by decide)⟩
  let I : Nat → Ro → Prop := fun i ρ => ∃ (ds : List Int) (a b c d : Sl), ρ = [.val (scr ns), .own (ds.map .int), a, b, c, d] ∧ ds.length ≤ 60 * i ∧ ∀ x ∈ ds, 0 ≤ x ∧ x < 65536
  have start : I 0 [.val (scr ns), .own [], .un, .un, .un, .un] := ⟨[], _, _, _, _, rfl, by simp, by simp⟩
  have hmin : min 63 (ns.length : Int) = ns.length := by omega
  have hpow : powD (.int 10) (.int 18) = some (.int 1000000000000000000) := by simp [powD]
  obtain ⟨ρ', h1, ds, a, b, c, d, rfl, hl, hb⟩ := forF_inv (g := gSet 2) (b := sSeq (sSet 3 (e1 absD (eCons (e2 ixD (eVarB 0) (eVarB 2)) eNil)))
      (sIf (eTb (e2 geD (eVarB 3) (e2 powD (eC (.int 10)) (eC (.int 18)))))
      (sFor (e1 rg1 (eCons (eC (.int 60)) (eNil))) (gSet 4)
      (sIf (eTb (e2 gtD (eVarB 3) (eC (.int 0))))
      (sSeq (sApp 1 (e2 modD (e1 intD (eCons (eVarB 3) eNil)) (eC (.int 65536))))
      (sSet 3 (e2 divD (eVarB 3) (eC (.int 65536)))))
      (sPass)))
      (sSeq (sSet 5 (e2 modD (e1 intD (eCons (e2 addD (e2 mulD (eVarB 3) (eC (.int 48271))) (e2 mulD (e2 addD (eVarB 2) (eC (.int 1))) (eC (.int 69621)))) eNil)) (eC (.int 2147483647))))
      (sSeq (sSet 5 (e2 modD (e1 intD (eCons (e2 addD (e2 addD (e2 mulD (eVarB 5) (eC (.int 16807))) (e2 mulD (eC (.int 11)) (eVarB 2))) (eC (.int 5))) eNil)) (eC (.int 2147483629))))
      (sSeq (sApp 1 (e2 modD (e1 intD (eCons (eVarB 5) eNil)) (eC (.int 65536))))
      (sApp 1 (e2 modD (e1 intD (eCons (e2 divD (eVarB 5) (eC (.int 65536))) eNil)) (eC (.int 32768)))))))))
    I (rngL 0 ns.length) 0 _ start (by
    rintro j dd ρ hj ⟨ds, a, b, c, d, rfl, hl, hb⟩
    rw [rngL_0, List.getElem?_map] at hj
    obtain ⟨j', hj', rfl⟩ := Option.map_eq_some_iff.mp hj
    have hjl : j' < ns.length := by
      have := List.mem_of_getElem? hj'
      simpa using this
    have hjj : j' = j := by
      have h2 := List.getElem?_eq_some_iff.mp hj'
      obtain ⟨h3, h4⟩ := h2
      simpa using h4.symm
    subst hjj
    obtain ⟨x, hx⟩ : ∃ x, ns[j']? = some x := ⟨_, List.getElem?_eq_getElem hjl⟩
    have hat : atI ns (j' : Int) = some x := by rw [Pf.atI_nat, hx]
    have hlen : ds.length < 16777200 := by omega
    refine ⟨[.val (scr ns), .own (ds.map .int), .val (.int (j' : Int)), b, c, d], ?_⟩
    by_cases hbig : (1000000000000000000 : Int) ≤ x.natAbs
    · -- digits
      let J : Nat → Ro → Prop := fun i ρ => ∃ (es : List Int) (r : Int) (c : Sl), ρ = [.val (scr ns), .own (es.map .int), .val (.int (j' : Int)), .val (.int r), c, d] ∧ es.length ≤ ds.length + i ∧ ∀ x ∈ es, 0 ≤ x ∧ x < 65536
      obtain ⟨ρ2, g1, es, r, c', rfl, g2, g3⟩ := forF_inv (g := gSet 4) (b := sIf (eTb (e2 gtD (eVarB 3) (eC (.int 0))))
        (sSeq (sApp 1 (e2 modD (e1 intD (eCons (eVarB 3) eNil)) (eC (.int 65536)))) (sSet 3 (e2 divD (eVarB 3) (eC (.int 65536))))) (sPass)) J (rngL 0 60) 0
        [.val (scr ns), .own (ds.map .int), .val (.int (j' : Int)), .val (.int x.natAbs), c, d] ⟨ds, _, _, rfl, by omega, hb⟩ (by
        rintro i dd ρ hi ⟨es, r, c, rfl, g2, g3⟩
        have hi60 : i < 60 := by
          have := (rngL_get hi).1
          exact this
        refine ⟨[.val (scr ns), .own (es.map .int), .val (.int (j' : Int)), .val (.int r), .val dd, d], ?_⟩
        by_cases hr : 0 < r
        · refine ⟨[.val (scr ns), .own ((es ++ [r % 65536]).map .int), .val (.int (j' : Int)), .val (.int (r / 65536)), .val dd, d], by simp, .inl ?_, es ++ [r % 65536], _, _, rfl, by simp; omega, fun y hy => ?_⟩
          · have hes : es.length < 16777216 := by omega
            simp [hr, he3, hes]
          · rcases List.mem_append.mp hy with hy | hy
            · exact g3 y hy
            · rw [List.mem_singleton.mp hy]; exact hmod _
        · refine ⟨[.val (scr ns), .own (es.map .int), .val (.int (j' : Int)), .val (.int r), .val dd, d], by simp, .inl ?_, es, _, _, rfl, by omega, g3⟩
          simp [hr])
      rw [rngL_length] at g2
      refine ⟨[.val (scr ns), .own (es.map .int), .val (.int (j' : Int)), .val (.int r), c', d], by simp, .inl ?_, es, _, _, _, _, rfl, by omega, g3⟩
      simp [hat, hpow, hbig]
      exact g1
    · -- mixed
      have hx18 : x.natAbs < 2 ^ 60 := by
        omega
      let s1 : Int := ((x.natAbs : Int) * 48271 + ((j' : Int) + 1) * 69621) % 2147483647
      have hs1 : 0 ≤ s1 ∧ s1 < 2147483647 := ⟨Int.emod_nonneg _ (by decide), Int.emod_lt_of_pos _ (by decide)⟩
      let s2 : Int := (s1 * 16807 + 11 * (j' : Int) + 5) % 2147483629
      have o1 : okMul (x.natAbs : Int) 48271 = true := okMul_of (k := 60) (l := 16) (by simpa using hx18) (by decide)
      have o2 : okMul ((j' : Int) + 1) 69621 = true := okMul_of (k := 10) (l := 17) (by omega) (by decide)
      have o3 : okMul s1 16807 = true := okMul_of (k := 31) (l := 15) (by omega) (by decide)
      have o4 : okMul 11 (j' : Int) = true := okMul_of (k := 4) (l := 10) (by decide) (by omega)
      have e1' : modD (.int ((x.natAbs : Int) * 48271 + ((j' : Int) + 1) * 69621)) (.int 2147483647) = some (.int s1) := modD_int (by decide)
      have e2' : modD (.int (s1 * 16807 + 11 * (j' : Int) + 5)) (.int 2147483629) = some (.int s2) := modD_int (by decide)
      have h1 : ds.length < 16777216 := by omega
      have h2 : ds.length + 1 < 16777216 := by omega
      refine ⟨[.val (scr ns), .own ((ds ++ [s2 % 65536] ++ [(s2 / 65536) % 32768]).map .int), .val (.int (j' : Int)), .val (.int x.natAbs), c, .val (.int s2)], by simp, .inl ?_, ds ++ [s2 % 65536] ++ [(s2 / 65536) % 32768], _, _, _, _, rfl, by simp; omega, fun y hy => ?_⟩
      · simp [hat, hpow, hbig, mulD_int o1, mulD_int o2, mulD_int o3, mulD_int o4, e1', e2', he3, h1, h2]
      · rcases List.mem_append.mp hy with hy | hy
        · rcases List.mem_append.mp hy with hy | hy
          · exact hb y hy
          · rw [List.mem_singleton.mp hy]; exact hmod _
        · rw [List.mem_singleton.mp hy]; exact hmod2 _)
  rw [rngL_length] at hl
  refine ⟨ds, ?_, by omega, hb⟩
  simp only [m__law_draws, mDef_eq, sSeq_eq, sSetN_eq, eNil_eq, List.length_singleton, if_true, List.map_cons, List.map_nil, Res.out_ok, sFor_eq]
  have hst : ([Sl.val (scr ns)] ++ List.replicate 5 Sl.un : Ro).set 1 (.own []) = [.val (scr ns), .own [], .un, .un, .un, .un] := rfl
  rw [hst]
  have hrg : e1 rg1 (eCons (e1 min2D (eCons (eC (.int 63)) (eCons (e1 lenD (eCons (eVarB 0) eNil)) eNil))) eNil) [.val (scr ns), .own [], .un, .un, .un, .un] = .ok (rngL 0 ns.length) := by
    simp [hmin]
    rw [rg1_int _ (by omega) (by omega)]
    simp
  rw [Out.seq_nx, sSeq_eq, sFor_eq, hrg, Res.out_ok, h1]
  simp

/-! ### the greatest common part -/
def estep (p : Nat × Nat) : Nat × Nat := if 0 < p.2 then (p.2, p.1 % p.2) else p
def iter : Nat → Nat × Nat → Nat × Nat
  | 0, p => p
  | n + 1, p => estep (iter n p)
theorem iter_succ (n : Nat) (p : Nat × Nat) : iter (n + 1) p = iter n (estep p) := by
  induction n with
  | zero => rfl
  | succ n ih => show estep (iter (n + 1) p) = estep (iter n (estep p)); rw [ih]
theorem estep_gcd (p : Nat × Nat) : Nat.gcd (estep p).1 (estep p).2 = Nat.gcd p.1 p.2 := by
  unfold estep
  split
  · show Nat.gcd p.2 (p.1 % p.2) = _
    rw [Nat.gcd_comm p.1 p.2, Nat.gcd_rec p.2 p.1, Nat.gcd_comm]
  · rfl
theorem iter_gcd (n : Nat) (p : Nat × Nat) : Nat.gcd (iter n p).1 (iter n p).2 = Nat.gcd p.1 p.2 := by
  induction n with
  | zero => rfl
  | succ n ih => show Nat.gcd (estep (iter n p)).1 (estep (iter n p)).2 = _; rw [estep_gcd, ih]
theorem iter_zero {p : Nat × Nat} (h : p.2 = 0) : ∀ n, iter n p = p
  | 0 => rfl
  | n + 1 => by show estep (iter n p) = p; rw [iter_zero h n]; unfold estep; rw [if_neg (by omega)]
theorem mod_half {b r : Nat} (h : r < b) (h0 : 0 < r) : 2 * (b % r) < b := by
  by_cases c : 2 * r ≤ b
  · have := Nat.mod_lt b h0; omega
  · have : b % r = b - r := by
      rw [Nat.mod_eq_sub_mod (Nat.le_of_lt h), Nat.mod_eq_of_lt (by omega)]
    omega
theorem two_steps (p : Nat × Nat) : 2 * (estep (estep p)).2 < p.2 ∨ (estep (estep p)).2 = 0 := by
  unfold estep
  by_cases h : 0 < p.2
  · rw [if_pos h]
    by_cases h2 : 0 < p.1 % p.2
    · left
      simp only [h2, if_true]
      exact mod_half (Nat.mod_lt _ h) h2
    · right
      simp only [h2, if_false]
      omega
  · rw [if_neg h, if_neg h]
    right; omega
theorem iter_done : ∀ (k : Nat) (p : Nat × Nat) (n : Nat), p.2 < 2 ^ k → 2 * k ≤ n → (iter n p).2 = 0
  | 0, p, n, h, _ => by rw [iter_zero (by simpa using h)]; simpa using h
  | k + 1, p, n, h, hn => by
    obtain ⟨m, rfl⟩ : ∃ m, n = m + 2 := ⟨n - 2, by omega⟩
    rw [iter_succ, iter_succ]
    refine iter_done k _ m ?_ (by omega)
    have hpos : 0 < 2 ^ k := Nat.pow_pos (by decide)
    rcases two_steps p with h2 | h2
    · rw [Nat.pow_succ] at h; omega
    · omega
theorem iter_eq {p : Nat × Nat} {k n : Nat} (h : p.2 < 2 ^ k) (hn : 2 * k ≤ n) : iter n p = (Nat.gcd p.1 p.2, 0) := by
  have h1 := iter_done k p n h hn
  have h2 := iter_gcd n p
  rw [h1, Nat.gcd_zero_right] at h2
  exact Prod.ext h2 h1
theorem lcommon_ok (a b : Int) (hb : b.natAbs < 2 ^ 200) : m__law_common [.int a, .int b] = .ok (.int (max 1 (Int.gcd a b))) := by
  let I : Nat → Ro → Prop := fun i ρ => ∃ (c : Sl), ρ = [.val (.int a), .val (.int b), .val (.int ((iter i (a.natAbs, b.natAbs)).1 : Nat)), .val (.int ((iter i (a.natAbs, b.natAbs)).2 : Nat)), c]
  obtain ⟨ρ', h1, c, rfl⟩ := forF_inv (g := gSet 4) (b := sIf (eTb (e2 gtD (eVarB 3) (eC (.int 0))))
      (sParM [2, 3] (mVal (eVar 3) (mVal (e2 modD (e1 intD (eCons (eVarB 2) eNil)) (eVarB 3)) (mNil)))) (sPass)) I (rngL 0 400) 0 [.val (.int a), .val (.int b), .val (.int a.natAbs), .val (.int b.natAbs), .un] ⟨_, rfl⟩ (by
    rintro j d ρ hj ⟨c, rfl⟩
    generalize hp : iter (0 + j) (a.natAbs, b.natAbs) = p
    refine ⟨[.val (.int a), .val (.int b), .val (.int (p.1 : Nat)), .val (.int (p.2 : Nat)), .val d], [.val (.int a), .val (.int b), .val (.int ((estep p).1 : Nat)), .val (.int ((estep p).2 : Nat)), .val d], rfl, .inl ?_, _, by rw [← hp]; rfl⟩
    by_cases h : 0 < p.2
    · have h' : (0 : Int) < (p.2 : Int) := by omega
      have e : estep p = (p.2, p.1 % p.2) := if_pos h
      simp [h, modD_int h', e]
    · have e : estep p = p := if_neg h
      simp [h, e])
  have hd : iter 400 (a.natAbs, b.natAbs) = (Nat.gcd a.natAbs b.natAbs, 0) := iter_eq (k := 200) hb (by decide)
  rw [rngL_length, Nat.zero_add, hd] at h1
  have hr : rg1 [.int 400] = some (rngL 0 400) := rg1_int 400 (by decide) (by decide)
  simp [m__law_common, hr, h1]
  rfl
theorem common_loop : ∀ (k : Nat) (x y n : Nat) (A B : Sl), y < 2 ^ k → 2 * k + 1 ≤ n →
    whF (eTb (e2 gtD (eVarB 3) (eC (.int 0)))) (sParM [2, 3] (mVal (eVar 3) (mVal (e2 modD (eVarB 2) (eVarB 3)) (mNil)))) n [A, B, .val (.int (x : Nat)), .val (.int (y : Nat))] = .nx [A, B, .val (.int (Nat.gcd x y : Nat)), .val (.int 0)] := by
  have one : ∀ (n x y : Nat) (A B : Sl), whF (eTb (e2 gtD (eVarB 3) (eC (.int 0)))) (sParM [2, 3] (mVal (eVar 3) (mVal (e2 modD (eVarB 2) (eVarB 3)) (mNil)))) (n + 1) [A, B, .val (.int (x : Nat)), .val (.int (y : Nat))] =
      if 0 < y then whF (eTb (e2 gtD (eVarB 3) (eC (.int 0)))) (sParM [2, 3] (mVal (eVar 3) (mVal (e2 modD (eVarB 2) (eVarB 3)) (mNil)))) n [A, B, .val (.int (y : Nat)), .val (.int (x % y : Nat))] else .nx [A, B, .val (.int (x : Nat)), .val (.int (y : Nat))] := by
    intro n x y A B
    rw [whF]
    by_cases h : 0 < y
    · have h' : (0 : Int) < (y : Int) := by omega
      simp [h, modD_int h']
    · simp [h]
  intro k
  induction k with
  | zero =>
    intro x y n A B h hn
    obtain ⟨m, rfl⟩ : ∃ m, n = m + 1 := ⟨n - 1, by omega⟩
    have : y = 0 := by simpa using h
    subst this
    rw [one, if_neg (by decide), Nat.gcd_zero_right]
    rfl
  | succ k ih =>
    intro x y n A B h hn
    obtain ⟨m, rfl⟩ : ∃ m, n = m + 1 + 1 := ⟨n - 2, by omega⟩
    have hpos : 0 < 2 ^ k := Nat.pow_pos (by decide)
    rw [Nat.pow_succ] at h
    rw [one]
    by_cases h0 : 0 < y
    · rw [if_pos h0, one]
      by_cases h1 : 0 < x % y
      · rw [if_pos h1, ih _ _ _ _ _ (by have := mod_half (Nat.mod_lt x h0) h1; omega) (by omega)]
        have g : Nat.gcd (x % y) (y % (x % y)) = Nat.gcd x y := by
          rw [Nat.gcd_comm (x % y), ← Nat.gcd_rec, ← Nat.gcd_rec, Nat.gcd_comm]
        rw [g]
      · rw [if_neg h1]
        have e : x % y = 0 := by omega
        have g : Nat.gcd x y = y := by rw [Nat.gcd_comm, Nat.gcd_rec, e, Nat.gcd_zero_left]
        rw [e, g]
        rfl
    · have : y = 0 := by omega
      subst this
      rw [if_neg (by decide), Nat.gcd_zero_right]
      rfl
theorem common_ok (a b : Int) (hb : b.natAbs < 2 ^ 200) : m_common [.int a, .int b] = .ok (.int (Int.gcd a b)) := by
  have h := common_loop 200 a.natAbs b.natAbs 100000 (.val (.int a)) (.val (.int b)) hb (by decide)
  have e : m_common [.int a, .int b] = outR ((whF (eTb (e2 gtD (eVarB 3) (eC (.int 0)))) (sParM [2, 3] (mVal (eVar 3) (mVal (e2 modD (eVarB 2) (eVarB 3)) (mNil)))) 100000 [.val (.int a), .val (.int b), .val (.int (a.natAbs : Nat)), .val (.int (b.natAbs : Nat))]).seq (sRet (eVar 2))) := by
    simp only [m_common, mDef_eq, sSeq_eq, sWhile_eq]
    simp
  rw [e, h]
  simp
  rfl

/-! ### fractions in lowest terms -/
def low (n d : Int) : Int × Int := (n / (Int.gcd n d : Int), d / (Int.gcd n d : Int))
theorem gcd_pos {n d : Int} (h : 0 < d) : 0 < (Int.gcd n d : Int) := by
  have : Int.gcd n d ≠ 0 := fun e => by
    have := (Int.gcd_eq_zero_iff.mp e).2
    omega
  omega
theorem gcd_le {n d : Int} (h : 0 < d) : (Int.gcd n d : Int) ≤ d := Int.le_of_dvd h (Int.gcd_dvd_right ..)
theorem natAbs_small {a : Int} {k : Nat} (h0 : 0 ≤ a) (h : a < 2 ^ k) : a.natAbs < 2 ^ k := by
  have e : ((2 ^ k : Nat) : Int) = (2 : Int) ^ k := by simp
  omega
theorem llow_ok (n d : Int) (hd : 0 < d) (hb : d < 2 ^ 200) : m__law_low [.int n, .int d] = .ok (frD (low n d)) := by
  have hdb := natAbs_small (Int.le_of_lt hd) hb
  have hg := gcd_pos (n := n) hd
  have hgl := gcd_le (n := n) hd
  have hgb : (Int.gcd n d : Int) < 2 ^ 200 := Int.lt_of_le_of_lt hgl hb
  have hgn := natAbs_small (Int.le_of_lt hg) hgb
  have hc := lcommon_ok n d hdb
  have hm : max 1 (Int.gcd n d : Int) = Int.gcd n d := by omega
  rw [hm] at hc
  have hnd : ¬ d < 0 := by omega
  have o : okMul (Int.gcd n d : Int) 1 = true := okMul_of (k := 200) (l := 1) hgn (by decide)
  have e3 : ∀ z : Int, divD (.int z) (.int (Int.gcd n d)) = some (.int (z / Int.gcd n d)) := fun z => divD_int hg (Nat.lt_of_lt_of_le (log_lt hgn (by decide)) (by decide))
  simp [m__law_low, hc, hnd, mulD_int o, e3, low]
theorem plain_ok (n d : Int) (hd : 0 < d) (hb : d < 2 ^ 200) : m_plain [.int n, .int d] = .ok (frD (low n d)) := by
  have hdb := natAbs_small (Int.le_of_lt hd) hb
  have hg := gcd_pos (n := n) hd
  have hgl := gcd_le (n := n) hd
  have hgb : (Int.gcd n d : Int) < 2 ^ 200 := Int.lt_of_le_of_lt hgl hb
  have hgn := natAbs_small (Int.le_of_lt hg) hgb
  have hc := common_ok n d hdb
  have e3 : ∀ z : Int, divD (.int z) (.int (Int.gcd n d)) = some (.int (z / Int.gcd n d)) := fun z => divD_int hg (Nat.lt_of_lt_of_le (log_lt hgn (by decide)) (by decide))
  simp [m_plain, hc, e3, low]
theorem ladd_ok (p q : Int × Int) (h1 : okMul p.1 q.2 = true) (h2 : okMul q.1 p.2 = true) (h3 : okMul p.2 q.2 = true) (hd : 0 < p.2 * q.2) (hb : p.2 * q.2 < 2 ^ 200) :
    m__law_add [frD p, frD q] = .ok (frD (low (p.1 * q.2 + q.1 * p.2) (p.2 * q.2))) := by
  have := llow_ok (p.1 * q.2 + q.1 * p.2) (p.2 * q.2) hd hb
  simp [m__law_add, mulD_int h1, mulD_int h2, mulD_int h3, this]
theorem ltimes_ok (p q : Int × Int) (h1 : okMul p.1 q.1 = true) (h3 : okMul p.2 q.2 = true) (hd : 0 < p.2 * q.2) (hb : p.2 * q.2 < 2 ^ 200) :
    m__law_times [frD p, frD q] = .ok (frD (low (p.1 * q.1) (p.2 * q.2))) := by
  have := llow_ok (p.1 * q.1) (p.2 * q.2) hd hb
  simp [m__law_times, mulD_int h1, mulD_int h3, this]
/-! ### what fractions are worth -/
theorem low_den {n d : Int} (h : 0 < d) : 0 < (low n d).2 ∧ (low n d).2 ≤ d := by
  have hg := gcd_pos (n := n) h
  have hd : (Int.gcd n d : Int) ∣ d := Int.gcd_dvd_right ..
  unfold low
  refine ⟨Int.ediv_pos_of_pos_of_dvd h (Int.le_of_lt hg) hd, ?_⟩
  exact Int.ediv_le_self _ (Int.le_of_lt h)
theorem low_val {n d : Int} (h : 0 < d) : (low n d).1 * d = n * (low n d).2 := by
  have hg := gcd_pos (n := n) h
  have h1 : (Int.gcd n d : Int) ∣ n := Int.gcd_dvd_left ..
  have h2 : (Int.gcd n d : Int) ∣ d := Int.gcd_dvd_right ..
  unfold low
  obtain ⟨a, ha⟩ := h1
  obtain ⟨b, hb⟩ := h2
  generalize (Int.gcd n d : Int) = g at *
  subst ha hb
  have e1 : g * a / g = a := Int.mul_ediv_cancel_left _ (by omega)
  have e2 : g * b / g = b := Int.mul_ediv_cancel_left _ (by omega)
  simp only [e1, e2]
  grind
theorem low_num {n d : Int} (h : 0 < d) : (low n d).1.natAbs ≤ n.natAbs := by
  have h1 : (Int.gcd n d : Int) ∣ n := Int.gcd_dvd_left ..
  have hg := gcd_pos (n := n) h
  unfold low
  obtain ⟨a, ha⟩ := h1
  generalize (Int.gcd n d : Int) = g at *
  subst ha
  have e1 : g * a / g = a := Int.mul_ediv_cancel_left _ (by omega)
  simp only [e1, Int.natAbs_mul]
  exact Nat.le_mul_of_pos_left _ (by omega)
theorem low_scale (n d k : Int) (hk : 0 < k) (hd : 0 < d) : low (n * k) (d * k) = low n d := by
  unfold low
  have e : (Int.gcd (n * k) (d * k) : Int) = Int.gcd n d * k := by
    rw [Int.gcd_mul_right]
    have : (k.natAbs : Int) = k := by omega
    rw [Int.natCast_mul, this]
  rw [e, Int.mul_ediv_mul_of_pos_left _ _ hk, Int.mul_ediv_mul_of_pos_left _ _ hk]
theorem low_eq {n d n' d' : Int} (h : 0 < d) (h' : 0 < d') (e : n * d' = n' * d) : low n d = low n' d' := by
  rw [← low_scale n d d' h' h, ← low_scale n' d' d h h', e, Int.mul_comm d' d]
theorem low_iff {n d n' d' : Int} (h : 0 < d) (h' : 0 < d') : low n d = low n' d' ↔ n * d' = n' * d := by
  refine ⟨fun e => ?_, low_eq h h'⟩
  have v1 := low_val (n := n) h
  have v2 := low_val (n := n') h'
  have p1 := (low_den (n := n') h').1
  rw [e] at v1
  generalize (low n' d').1 = a at *
  generalize (low n' d').2 = b at *
  have : (n * d') * b = (n' * d) * b := by grind
  exact Int.eq_of_mul_eq_mul_right (by omega) this
theorem low_lt {n d n' d' : Int} (h : 0 < d) (h' : 0 < d') : (low n d).1 * (low n' d').2 < (low n' d').1 * (low n d).2 ↔ n * d' < n' * d := by
  have v1 := low_val (n := n) h
  have v2 := low_val (n := n') h'
  have p1 := (low_den (n := n) h).1
  have p2 := (low_den (n := n') h').1
  generalize (low n d).1 = a at *
  generalize (low n d).2 = b at *
  generalize (low n' d').1 = a' at *
  generalize (low n' d').2 = b' at *
  have e1 : (a * b') * (d * d') = (n * d') * (b * b') := by grind
  have e2 : (a' * b) * (d * d') = (n' * d) * (b * b') := by grind
  have q1 : 0 < d * d' := Int.mul_pos h h'
  have q2 : 0 < b * b' := Int.mul_pos p1 p2
  constructor
  · intro hl
    have := Int.mul_lt_mul_of_pos_right hl q1
    rw [e1, e2] at this
    exact Int.lt_of_mul_lt_mul_right this (Int.le_of_lt q2)
  · intro hl
    have := Int.mul_lt_mul_of_pos_right hl q2
    rw [← e1, ← e2] at this
    exact Int.lt_of_mul_lt_mul_right this (Int.le_of_lt q1)
theorem low_one (n : Int) : low n 1 = (n, 1) := by
  unfold low
  simp
theorem low_pos {n d : Int} (h : 0 < d) : 0 < (low n d).1 ↔ 0 < n := by
  have v1 := low_val (n := n) h
  have p1 := (low_den (n := n) h).1
  generalize (low n d).1 = a at *
  generalize (low n d).2 = b at *
  constructor
  · intro ha
    have : 0 < a * d := Int.mul_pos ha h
    rw [v1] at this
    exact Int.pos_of_mul_pos_left this p1 
  · intro hn
    have : 0 < n * b := Int.mul_pos hn p1
    rw [← v1] at this
    exact Int.pos_of_mul_pos_left this h
end LawC
/-! Ts1: mirrors refined by typed functions: expressions. -/
namespace Pf
open PySem PySem.Spec PyProof.Rows L2

/-! ### encodings -/
abbrev eI (i : Int) : PyData := .int i
abbrev eBo (b : Bool) : PyData := .bool b
abbrev eS (s : Str) : PyData := .str s
def eL {α : Type} (e : α → PyData) (xs : List α) : PyData := .list (xs.map e)
def eT {α : Type} (e : α → PyData) (xs : List α) : PyData := .tuple (xs.map e)
def eP {α β : Type} (e : α → PyData) (f : β → PyData) (p : α × β) : PyData := .tuple [e p.1, f p.2]
def eP3 {α β γ : Type} (e : α → PyData) (f : β → PyData) (g : γ → PyData) (p : α × β × γ) : PyData := .tuple [e p.1, f p.2.1, g p.2.2]
def eP4 {α β γ δ : Type} (e : α → PyData) (f : β → PyData) (g : γ → PyData) (h : δ → PyData) (p : α × β × γ × δ) : PyData := .tuple [e p.1, f p.2.1, g p.2.2.1, h p.2.2.2]
def eP5 {α β γ δ ε : Type} (e : α → PyData) (f : β → PyData) (g : γ → PyData) (h : δ → PyData) (i : ε → PyData) (p : α × β × γ × δ × ε) : PyData := .tuple [e p.1, f p.2.1, g p.2.2.1, h p.2.2.2.1, i p.2.2.2.2]
def eO {α : Type} (e : α → PyData) : Option α → PyData
  | none => .none
  | some a => e a
def eU (_ : Unit) : PyData := .none
abbrev eD (d : PyData) : PyData := d
abbrev eScr (ns : List Int) : PyData := scr ns
abbrev eId {α : Type} (a : α) : α := a
abbrev Pn := List (Option Sl)

/-! ### answers -/
def RR {α β : Type} (r : Res α) (e : α → β) (m : Res β) : Prop := match r with
  | .ok a => m = .ok (e a)
  | .exc c k => m = .exc c k
  | .bad => True
def Res.hush {α : Type} : Res α → Res α
  | .ok a => .ok a
  | _ => .bad
@[simp] theorem Res.hush_ok {α : Type} (a : α) : (Res.ok a).hush = .ok a := rfl
@[simp] theorem Res.hush_exc {α : Type} (c : Str) (k : Int) : (Res.exc c k : Res α).hush = .bad := rfl
@[simp] theorem Res.hush_bad {α : Type} : (Res.bad : Res α).hush = .bad := rfl
theorem Res.assoc {α β γ : Type} (r : Res α) (f : α → Res β) (g : β → Res γ) : (r.bind f).bind g = r.bind fun a => (f a).bind g := by cases r <;> rfl
theorem Res.pure {α : Type} (r : Res α) : (r.bind fun a => .ok a) = r := by cases r <;> rfl
section
variable {α β γ δ : Type}
theorem RR.bind {r : Res α} {m : Res β} {e : α → β} {k : α → Res γ} {k' : β → Res δ} {e' : γ → δ} (h : RR r e m) (hk : ∀ a, RR (k a) e' (k' (e a))) : RR (r.bind k) e' (m.bind k') := by
  cases r with
  | ok a => have h : m = .ok (e a) := h; subst h; exact hk a
  | exc c k => have h : m = .exc c k := h; subst h; rfl
  | bad => trivial
theorem RR.bindO {r : Res α} {m : Res β} {e : α → β} {k : α → Res γ} {k' : β → Option δ} {e' : γ → δ} (h : RR r e m) (hk : ∀ a, RR (k a) e' (ofO (k' (e a)))) : RR (r.bind k) e' (m.bind fun b => ofO (k' b)) := h.bind hk
theorem RR.ok {a : α} {e : α → β} {m : Res β} (h : m = .ok (e a)) : RR (.ok a) e m := h
theorem RR.out {r : Res α} {e : α → β} {m : Res β} {a : α} (h : RR r e m) (hr : r = .ok a) : m = .ok (e a) := by subst hr; exact h
end

/-! ### what is known of the slots -/
def Ag : Pn → Ro → Prop
  | [], [] => True
  | o :: L, s :: ρ => (∀ t, o = some t → s = t) ∧ Ag L ρ
  | _, _ => False
theorem Ag.get : ∀ {L : Pn} {ρ : Ro} {i : Nat} {s : Sl}, Ag L ρ → L[i]? = some (some s) → ρ[i]? = some s
  | [], [], _, _, _, h => by simp at h
  | o :: L, t :: ρ, 0, s, a, h => by
    have h : o = some s := by simpa using h
    rw [a.1 s h]; rfl
  | o :: L, t :: ρ, i + 1, s, a, h => by
    have := Ag.get (i := i) (s := s) a.2 (by simpa using h)
    simpa using this
  | _ :: _, [], _, _, a, _ => a.elim
  | [], _ :: _, _, _, a, _ => a.elim
theorem Ag.set : ∀ {L : Pn} {ρ : Ro} (i : Nat) (s : Sl), Ag L ρ → Ag (L.set i (some s)) (ρ.set i s)
  | [], [], _, _, _ => trivial
  | o :: L, t :: ρ, 0, s, a => ⟨fun u e => by cases e; rfl, a.2⟩
  | o :: L, t :: ρ, i + 1, s, a => ⟨a.1, Ag.set i s a.2⟩
  | _ :: _, [], _, _, a => a.elim
  | [], _ :: _, _, _, a => a.elim
def mk : List Bool → Pn → Pn
  | true :: m, o :: L => o :: mk m L
  | false :: m, _ :: L => none :: mk m L
  | _, L => L
theorem Ag.mk : ∀ {L : Pn} {ρ : Ro} (m : List Bool), Ag L ρ → Ag (Pf.mk m L) ρ
  | [], [], [], _ => trivial
  | [], [], true :: _, _ => trivial
  | [], [], false :: _, _ => trivial
  | o :: L, t :: ρ, [], a => a
  | o :: L, t :: ρ, true :: m, a => ⟨a.1, Ag.mk m a.2⟩
  | o :: L, t :: ρ, false :: m, a => ⟨fun u e => (nomatch e), Ag.mk m a.2⟩
  | _ :: _, [], _, a => a.elim
  | [], _ :: _, _, a => a.elim
def wipeP (L : Pn) : List Nat → Pn
  | [] => L
  | i :: is => (wipeP L is).set i none
theorem Ag.un : ∀ {L : Pn} {ρ : Ro} (i : Nat) (s : Sl), Ag L ρ → Ag (L.set i none) (ρ.set i s)
  | [], [], _, _, _ => trivial
  | o :: L, t :: ρ, 0, s, a => ⟨fun u e => (nomatch e), a.2⟩
  | o :: L, t :: ρ, i + 1, s, a => ⟨a.1, Ag.un i s a.2⟩
  | _ :: _, [], _, _, a => a.elim
  | [], _ :: _, _, _, a => a.elim
theorem Ag.wipe {L : Pn} {ρ : Ro} (a : Ag L ρ) : ∀ is : List Nat, Ag (wipeP L is) (wipeR ρ is)
  | [] => a
  | i :: is => (Ag.wipe a is).un i .un
theorem Ag.len : ∀ {L : Pn} {ρ : Ro}, Ag L ρ → ρ.length = L.length
  | [], [], _ => rfl
  | _ :: L, _ :: ρ, a => by simp [Ag.len a.2]
  | _ :: _, [], a => a.elim
  | [], _ :: _, a => a.elim

/-! ### expressions -/
def TE {α β : Type} (L : Pn) (f : Ro → Res β) (r : Res α) (e : α → β) : Prop := ∀ ρ, Ag L ρ → RR r e (f ρ)
section
variable {α β γ δ ε : Type} {L : Pn}
theorem t_var {i : Nat} {a : α} {e : α → PyData} {r : Res α} (h : L[i]? = some (some (.val (e a)))) (hr : r = .ok a := by first | rfl | (simp only [Res.bind_ok, Res.assoc, Res.pure]; done)) : TE L (eVar i) r e := by
  subst hr; exact fun ρ g => eVar_val (g.get h)
theorem t_varB {i : Nat} {a : α} {e : α → PyData} {r : Res α} (h : L[i]? = some (some (.val (e a)))) (hr : r = .ok a := by first | rfl | (simp only [Res.bind_ok, Res.assoc, Res.pure]; done)) : TE L (eVarB i) r e := by
  subst hr; exact fun ρ g => eVarB_val (g.get h)
theorem t_varO {i : Nat} {a : List α} {e : α → PyData} {r : Res (List α)} (h : L[i]? = some (some (.own (a.map e)))) (hr : r = .ok a := by first | rfl | (simp only [Res.bind_ok, Res.assoc, Res.pure]; done)) : TE L (eVarB i) r (eL e) := by
  subst hr; exact fun ρ g => eVarB_own (g.get h)
theorem t_c {a : α} {e : α → PyData} {d : PyData} {r : Res α} (h : d = e a) (hr : r = .ok a := by first | rfl | (simp only [Res.bind_ok, Res.assoc, Res.pure]; done)) : TE L (eC d) r e := by
  subst hr h; exact fun ρ g => rfl
/-- what a step of one, two takes -/
def Op1 {α β γ δ : Type} (s : β → Option δ) (ea : α → β) (ec : γ → δ) (k : α → Res γ) : Prop := ∀ a, RR (k a) ec (ofO (s (ea a)))
def Op2 {α α' β β' γ δ : Type} (s : α' → β' → Option δ) (ea : α → α') (eb : β → β') (ec : γ → δ) (k : α → β → Res γ) : Prop := ∀ a b, RR (k a b) ec (ofO (s (ea a) (eb b)))
theorem t_e1 {α' γ' : Type} {s : α' → Option γ'} {ea : α → α'} {ec : γ → γ'} {k : α → Res γ} {f : Ro → Res α'} {ra : Res α} {r : Res γ} (op : Op1 s ea ec k) (hf : TE L f ra ea) (hr : r = ra.bind k := by first | rfl | (simp only [Res.bind_ok, Res.assoc, Res.pure]; done)) : TE L (e1 s f) r ec := by
  subst hr; exact fun ρ g => (hf ρ g).bind fun a => op a
theorem t_e2 {α' β' γ' : Type} {s : α' → β' → Option γ'} {ea : α → α'} {eb : β → β'} {ec : γ → γ'} {k : α → β → Res γ} {f : Ro → Res α'} {g : Ro → Res β'} {ra : Res α} {rb : Res β} {r : Res γ} (op : Op2 s ea eb ec k) (hf : TE L f ra ea) (hg : TE L g rb eb) (hr : r = ra.bind fun a => rb.bind fun b => k a b := by first | rfl | (simp only [Res.bind_ok, Res.assoc, Res.pure]; done)) : TE L (e2 s f g) r ec := by
  subst hr; exact fun ρ h => (hf ρ h).bind fun a => (hg ρ h).bind fun b => op a b
theorem cons_bind {f : Ro → Res PyData} {g : Ro → Res (List PyData)} {ρ : Ro} {K : List PyData → Res δ} : ((eCons f g) ρ).bind K = (f ρ).bind fun d => (g ρ).bind fun ds => K (d :: ds) := by
  unfold eCons
  cases f ρ with
  | ok d => cases g ρ <;> rfl
  | exc c k => rfl
  | bad => rfl
theorem nil_bind {ρ : Ro} {K : List PyData → Res δ} : (eNil ρ).bind K = K [] := rfl
theorem t_call1 {A1 : Type} {m : List PyData → Res δ} {s : A1 → Res γ} {ec : γ → δ} {e1 : A1 → PyData} {f1 : Ro → Res PyData} {r1 : Res A1} {r : Res γ} (hm : ∀ a1, RR (s a1) ec (m [e1 a1])) (h1 : TE L f1 r1 e1) (hr : r = r1.bind fun a1 => s a1 := by first | rfl | (simp only [Res.bind_ok, Res.assoc, Res.pure]; done)) : ∀ ρ, Ag L ρ → RR r ec (((eCons f1 eNil) ρ).bind m) := by
  subst hr
  intro ρ h
  simp only [cons_bind, nil_bind]
  exact (h1 ρ h).bind fun a1 => hm a1
theorem t_call2 {A1 A2 : Type} {m : List PyData → Res δ} {s : A1 → A2 → Res γ} {ec : γ → δ} {e1 : A1 → PyData} {e2 : A2 → PyData} {f1 f2 : Ro → Res PyData} {r1 : Res A1} {r2 : Res A2} {r : Res γ} (hm : ∀ a1 a2, RR (s a1 a2) ec (m [e1 a1, e2 a2])) (h1 : TE L f1 r1 e1) (h2 : TE L f2 r2 e2) (hr : r = r1.bind fun a1 => r2.bind fun a2 => s a1 a2 := by first | rfl | (simp only [Res.bind_ok, Res.assoc, Res.pure]; done)) : ∀ ρ, Ag L ρ → RR r ec (((eCons f1 (eCons f2 eNil)) ρ).bind m) := by
  subst hr
  intro ρ h
  simp only [cons_bind, nil_bind]
  exact (h1 ρ h).bind fun a1 => (h2 ρ h).bind fun a2 => hm a1 a2
theorem t_call3 {A1 A2 A3 : Type} {m : List PyData → Res δ} {s : A1 → A2 → A3 → Res γ} {ec : γ → δ} {e1 : A1 → PyData} {e2 : A2 → PyData} {e3 : A3 → PyData} {f1 f2 f3 : Ro → Res PyData} {r1 : Res A1} {r2 : Res A2} {r3 : Res A3} {r : Res γ} (hm : ∀ a1 a2 a3, RR (s a1 a2 a3) ec (m [e1 a1, e2 a2, e3 a3])) (h1 : TE L f1 r1 e1) (h2 : TE L f2 r2 e2) (h3 : TE L f3 r3 e3) (hr : r = r1.bind fun a1 => r2.bind fun a2 => r3.bind fun a3 => s a1 a2 a3 := by first | rfl | (simp only [Res.bind_ok, Res.assoc, Res.pure]; done)) : ∀ ρ, Ag L ρ → RR r ec (((eCons f1 (eCons f2 (eCons f3 eNil))) ρ).bind m) := by
  subst hr
  intro ρ h
  simp only [cons_bind, nil_bind]
  exact (h1 ρ h).bind fun a1 => (h2 ρ h).bind fun a2 => (h3 ρ h).bind fun a3 => hm a1 a2 a3
theorem t_call4 {A1 A2 A3 A4 : Type} {m : List PyData → Res δ} {s : A1 → A2 → A3 → A4 → Res γ} {ec : γ → δ} {e1 : A1 → PyData} {e2 : A2 → PyData} {e3 : A3 → PyData} {e4 : A4 → PyData} {f1 f2 f3 f4 : Ro → Res PyData} {r1 : Res A1} {r2 : Res A2} {r3 : Res A3} {r4 : Res A4} {r : Res γ} (hm : ∀ a1 a2 a3 a4, RR (s a1 a2 a3 a4) ec (m [e1 a1, e2 a2, e3 a3, e4 a4])) (h1 : TE L f1 r1 e1) (h2 : TE L f2 r2 e2) (h3 : TE L f3 r3 e3) (h4 : TE L f4 r4 e4) (hr : r = r1.bind fun a1 => r2.bind fun a2 => r3.bind fun a3 => r4.bind fun a4 => s a1 a2 a3 a4 := by first | rfl | (simp only [Res.bind_ok, Res.assoc, Res.pure]; done)) : ∀ ρ, Ag L ρ → RR r ec (((eCons f1 (eCons f2 (eCons f3 (eCons f4 eNil)))) ρ).bind m) := by
  subst hr
  intro ρ h
  simp only [cons_bind, nil_bind]
  exact (h1 ρ h).bind fun a1 => (h2 ρ h).bind fun a2 => (h3 ρ h).bind fun a3 => (h4 ρ h).bind fun a4 => hm a1 a2 a3 a4
theorem t_call5 {A1 A2 A3 A4 A5 : Type} {m : List PyData → Res δ} {s : A1 → A2 → A3 → A4 → A5 → Res γ} {ec : γ → δ} {e1 : A1 → PyData} {e2 : A2 → PyData} {e3 : A3 → PyData} {e4 : A4 → PyData} {e5 : A5 → PyData} {f1 f2 f3 f4 f5 : Ro → Res PyData} {r1 : Res A1} {r2 : Res A2} {r3 : Res A3} {r4 : Res A4} {r5 : Res A5} {r : Res γ} (hm : ∀ a1 a2 a3 a4 a5, RR (s a1 a2 a3 a4 a5) ec (m [e1 a1, e2 a2, e3 a3, e4 a4, e5 a5])) (h1 : TE L f1 r1 e1) (h2 : TE L f2 r2 e2) (h3 : TE L f3 r3 e3) (h4 : TE L f4 r4 e4) (h5 : TE L f5 r5 e5) (hr : r = r1.bind fun a1 => r2.bind fun a2 => r3.bind fun a3 => r4.bind fun a4 => r5.bind fun a5 => s a1 a2 a3 a4 a5 := by first | rfl | (simp only [Res.bind_ok, Res.assoc, Res.pure]; done)) : ∀ ρ, Ag L ρ → RR r ec (((eCons f1 (eCons f2 (eCons f3 (eCons f4 (eCons f5 eNil))))) ρ).bind m) := by
  subst hr
  intro ρ h
  simp only [cons_bind, nil_bind]
  exact (h1 ρ h).bind fun a1 => (h2 ρ h).bind fun a2 => (h3 ρ h).bind fun a3 => (h4 ρ h).bind fun a4 => (h5 ρ h).bind fun a5 => hm a1 a2 a3 a4 a5
theorem t_call6 {A1 A2 A3 A4 A5 A6 : Type} {m : List PyData → Res δ} {s : A1 → A2 → A3 → A4 → A5 → A6 → Res γ} {ec : γ → δ} {e1 : A1 → PyData} {e2 : A2 → PyData} {e3 : A3 → PyData} {e4 : A4 → PyData} {e5 : A5 → PyData} {e6 : A6 → PyData} {f1 f2 f3 f4 f5 f6 : Ro → Res PyData} {r1 : Res A1} {r2 : Res A2} {r3 : Res A3} {r4 : Res A4} {r5 : Res A5} {r6 : Res A6} {r : Res γ} (hm : ∀ a1 a2 a3 a4 a5 a6, RR (s a1 a2 a3 a4 a5 a6) ec (m [e1 a1, e2 a2, e3 a3, e4 a4, e5 a5, e6 a6])) (h1 : TE L f1 r1 e1) (h2 : TE L f2 r2 e2) (h3 : TE L f3 r3 e3) (h4 : TE L f4 r4 e4) (h5 : TE L f5 r5 e5) (h6 : TE L f6 r6 e6) (hr : r = r1.bind fun a1 => r2.bind fun a2 => r3.bind fun a3 => r4.bind fun a4 => r5.bind fun a5 => r6.bind fun a6 => s a1 a2 a3 a4 a5 a6 := by first | rfl | (simp only [Res.bind_ok, Res.assoc, Res.pure]; done)) : ∀ ρ, Ag L ρ → RR r ec (((eCons f1 (eCons f2 (eCons f3 (eCons f4 (eCons f5 (eCons f6 eNil)))))) ρ).bind m) := by
  subst hr
  intro ρ h
  simp only [cons_bind, nil_bind]
  exact (h1 ρ h).bind fun a1 => (h2 ρ h).bind fun a2 => (h3 ρ h).bind fun a3 => (h4 ρ h).bind fun a4 => (h5 ρ h).bind fun a5 => (h6 ρ h).bind fun a6 => hm a1 a2 a3 a4 a5 a6
theorem t_call7 {A1 A2 A3 A4 A5 A6 A7 : Type} {m : List PyData → Res δ} {s : A1 → A2 → A3 → A4 → A5 → A6 → A7 → Res γ} {ec : γ → δ} {e1 : A1 → PyData} {e2 : A2 → PyData} {e3 : A3 → PyData} {e4 : A4 → PyData} {e5 : A5 → PyData} {e6 : A6 → PyData} {e7 : A7 → PyData} {f1 f2 f3 f4 f5 f6 f7 : Ro → Res PyData} {r1 : Res A1} {r2 : Res A2} {r3 : Res A3} {r4 : Res A4} {r5 : Res A5} {r6 : Res A6} {r7 : Res A7} {r : Res γ} (hm : ∀ a1 a2 a3 a4 a5 a6 a7, RR (s a1 a2 a3 a4 a5 a6 a7) ec (m [e1 a1, e2 a2, e3 a3, e4 a4, e5 a5, e6 a6, e7 a7])) (h1 : TE L f1 r1 e1) (h2 : TE L f2 r2 e2) (h3 : TE L f3 r3 e3) (h4 : TE L f4 r4 e4) (h5 : TE L f5 r5 e5) (h6 : TE L f6 r6 e6) (h7 : TE L f7 r7 e7) (hr : r = r1.bind fun a1 => r2.bind fun a2 => r3.bind fun a3 => r4.bind fun a4 => r5.bind fun a5 => r6.bind fun a6 => r7.bind fun a7 => s a1 a2 a3 a4 a5 a6 a7 := by first | rfl | (simp only [Res.bind_ok, Res.assoc, Res.pure]; done)) : ∀ ρ, Ag L ρ → RR r ec (((eCons f1 (eCons f2 (eCons f3 (eCons f4 (eCons f5 (eCons f6 (eCons f7 eNil))))))) ρ).bind m) := by
  subst hr
  intro ρ h
  simp only [cons_bind, nil_bind]
  exact (h1 ρ h).bind fun a1 => (h2 ρ h).bind fun a2 => (h3 ρ h).bind fun a3 => (h4 ρ h).bind fun a4 => (h5 ρ h).bind fun a5 => (h6 ρ h).bind fun a6 => (h7 ρ h).bind fun a7 => hm a1 a2 a3 a4 a5 a6 a7
theorem t_call8 {A1 A2 A3 A4 A5 A6 A7 A8 : Type} {m : List PyData → Res δ} {s : A1 → A2 → A3 → A4 → A5 → A6 → A7 → A8 → Res γ} {ec : γ → δ} {e1 : A1 → PyData} {e2 : A2 → PyData} {e3 : A3 → PyData} {e4 : A4 → PyData} {e5 : A5 → PyData} {e6 : A6 → PyData} {e7 : A7 → PyData} {e8 : A8 → PyData} {f1 f2 f3 f4 f5 f6 f7 f8 : Ro → Res PyData} {r1 : Res A1} {r2 : Res A2} {r3 : Res A3} {r4 : Res A4} {r5 : Res A5} {r6 : Res A6} {r7 : Res A7} {r8 : Res A8} {r : Res γ} (hm : ∀ a1 a2 a3 a4 a5 a6 a7 a8, RR (s a1 a2 a3 a4 a5 a6 a7 a8) ec (m [e1 a1, e2 a2, e3 a3, e4 a4, e5 a5, e6 a6, e7 a7, e8 a8])) (h1 : TE L f1 r1 e1) (h2 : TE L f2 r2 e2) (h3 : TE L f3 r3 e3) (h4 : TE L f4 r4 e4) (h5 : TE L f5 r5 e5) (h6 : TE L f6 r6 e6) (h7 : TE L f7 r7 e7) (h8 : TE L f8 r8 e8) (hr : r = r1.bind fun a1 => r2.bind fun a2 => r3.bind fun a3 => r4.bind fun a4 => r5.bind fun a5 => r6.bind fun a6 => r7.bind fun a7 => r8.bind fun a8 => s a1 a2 a3 a4 a5 a6 a7 a8 := by first | rfl | (simp only [Res.bind_ok, Res.assoc, Res.pure]; done)) : ∀ ρ, Ag L ρ → RR r ec (((eCons f1 (eCons f2 (eCons f3 (eCons f4 (eCons f5 (eCons f6 (eCons f7 (eCons f8 eNil)))))))) ρ).bind m) := by
  subst hr
  intro ρ h
  simp only [cons_bind, nil_bind]
  exact (h1 ρ h).bind fun a1 => (h2 ρ h).bind fun a2 => (h3 ρ h).bind fun a3 => (h4 ρ h).bind fun a4 => (h5 ρ h).bind fun a5 => (h6 ρ h).bind fun a6 => (h7 ρ h).bind fun a7 => (h8 ρ h).bind fun a8 => hm a1 a2 a3 a4 a5 a6 a7 a8
theorem t_call9 {A1 A2 A3 A4 A5 A6 A7 A8 A9 : Type} {m : List PyData → Res δ} {s : A1 → A2 → A3 → A4 → A5 → A6 → A7 → A8 → A9 → Res γ} {ec : γ → δ} {e1 : A1 → PyData} {e2 : A2 → PyData} {e3 : A3 → PyData} {e4 : A4 → PyData} {e5 : A5 → PyData} {e6 : A6 → PyData} {e7 : A7 → PyData} {e8 : A8 → PyData} {e9 : A9 → PyData} {f1 f2 f3 f4 f5 f6 f7 f8 f9 : Ro → Res PyData} {r1 : Res A1} {r2 : Res A2} {r3 : Res A3} {r4 : Res A4} {r5 : Res A5} {r6 : Res A6} {r7 : Res A7} {r8 : Res A8} {r9 : Res A9} {r : Res γ} (hm : ∀ a1 a2 a3 a4 a5 a6 a7 a8 a9, RR (s a1 a2 a3 a4 a5 a6 a7 a8 a9) ec (m [e1 a1, e2 a2, e3 a3, e4 a4, e5 a5, e6 a6, e7 a7, e8 a8, e9 a9])) (h1 : TE L f1 r1 e1) (h2 : TE L f2 r2 e2) (h3 : TE L f3 r3 e3) (h4 : TE L f4 r4 e4) (h5 : TE L f5 r5 e5) (h6 : TE L f6 r6 e6) (h7 : TE L f7 r7 e7) (h8 : TE L f8 r8 e8) (h9 : TE L f9 r9 e9) (hr : r = r1.bind fun a1 => r2.bind fun a2 => r3.bind fun a3 => r4.bind fun a4 => r5.bind fun a5 => r6.bind fun a6 => r7.bind fun a7 => r8.bind fun a8 => r9.bind fun a9 => s a1 a2 a3 a4 a5 a6 a7 a8 a9 := by first | rfl | (simp only [Res.bind_ok, Res.assoc, Res.pure]; done)) : ∀ ρ, Ag L ρ → RR r ec (((eCons f1 (eCons f2 (eCons f3 (eCons f4 (eCons f5 (eCons f6 (eCons f7 (eCons f8 (eCons f9 eNil))))))))) ρ).bind m) := by
  subst hr
  intro ρ h
  simp only [cons_bind, nil_bind]
  exact (h1 ρ h).bind fun a1 => (h2 ρ h).bind fun a2 => (h3 ρ h).bind fun a3 => (h4 ρ h).bind fun a4 => (h5 ρ h).bind fun a5 => (h6 ρ h).bind fun a6 => (h7 ρ h).bind fun a7 => (h8 ρ h).bind fun a8 => (h9 ρ h).bind fun a9 => hm a1 a2 a3 a4 a5 a6 a7 a8 a9
theorem t_call10 {A1 A2 A3 A4 A5 A6 A7 A8 A9 A10 : Type} {m : List PyData → Res δ} {s : A1 → A2 → A3 → A4 → A5 → A6 → A7 → A8 → A9 → A10 → Res γ} {ec : γ → δ} {e1 : A1 → PyData} {e2 : A2 → PyData} {e3 : A3 → PyData} {e4 : A4 → PyData} {e5 : A5 → PyData} {e6 : A6 → PyData} {e7 : A7 → PyData} {e8 : A8 → PyData} {e9 : A9 → PyData} {e10 : A10 → PyData} {f1 f2 f3 f4 f5 f6 f7 f8 f9 f10 : Ro → Res PyData} {r1 : Res A1} {r2 : Res A2} {r3 : Res A3} {r4 : Res A4} {r5 : Res A5} {r6 : Res A6} {r7 : Res A7} {r8 : Res A8} {r9 : Res A9} {r10 : Res A10} {r : Res γ} (hm : ∀ a1 a2 a3 a4 a5 a6 a7 a8 a9 a10, RR (s a1 a2 a3 a4 a5 a6 a7 a8 a9 a10) ec (m [e1 a1, e2 a2, e3 a3, e4 a4, e5 a5, e6 a6, e7 a7, e8 a8, e9 a9, e10 a10])) (h1 : TE L f1 r1 e1) (h2 : TE L f2 r2 e2) (h3 : TE L f3 r3 e3) (h4 : TE L f4 r4 e4) (h5 : TE L f5 r5 e5) (h6 : TE L f6 r6 e6) (h7 : TE L f7 r7 e7) (h8 : TE L f8 r8 e8) (h9 : TE L f9 r9 e9) (h10 : TE L f10 r10 e10) (hr : r = r1.bind fun a1 => r2.bind fun a2 => r3.bind fun a3 => r4.bind fun a4 => r5.bind fun a5 => r6.bind fun a6 => r7.bind fun a7 => r8.bind fun a8 => r9.bind fun a9 => r10.bind fun a10 => s a1 a2 a3 a4 a5 a6 a7 a8 a9 a10 := by first | rfl | (simp only [Res.bind_ok, Res.assoc, Res.pure]; done)) : ∀ ρ, Ag L ρ → RR r ec (((eCons f1 (eCons f2 (eCons f3 (eCons f4 (eCons f5 (eCons f6 (eCons f7 (eCons f8 (eCons f9 (eCons f10 eNil)))))))))) ρ).bind m) := by
  subst hr
  intro ρ h
  simp only [cons_bind, nil_bind]
  exact (h1 ρ h).bind fun a1 => (h2 ρ h).bind fun a2 => (h3 ρ h).bind fun a3 => (h4 ρ h).bind fun a4 => (h5 ρ h).bind fun a5 => (h6 ρ h).bind fun a6 => (h7 ρ h).bind fun a7 => (h8 ρ h).bind fun a8 => (h9 ρ h).bind fun a9 => (h10 ρ h).bind fun a10 => hm a1 a2 a3 a4 a5 a6 a7 a8 a9 a10

def B1 {α γ δ : Type} (s : List PyData → Option δ) (ea : α → PyData) (ec : γ → δ) (k : α → Res γ) : Prop := ∀ a, RR (k a) ec (ofO (s [ea a]))
def B2 {α β γ δ : Type} (s : List PyData → Option δ) (ea : α → PyData) (eb : β → PyData) (ec : γ → δ) (k : α → β → Res γ) : Prop := ∀ a b, RR (k a b) ec (ofO (s [ea a, eb b]))
theorem t_b1 {s : List PyData → Option δ} {ea : α → PyData} {ec : γ → δ} {k : α → Res γ} {f : Ro → Res PyData} {ra : Res α} {r : Res γ} (op : B1 s ea ec k) (hf : TE L f ra ea) (hr : r = ra.bind k := by first | rfl | (simp only [Res.bind_ok, Res.assoc, Res.pure]; done)) : TE L (e1 s (eCons f eNil)) r ec := t_call1 (m := fun ds => ofO (s ds)) op hf hr
theorem t_b2 {s : List PyData → Option δ} {ea : α → PyData} {eb : β → PyData} {ec : γ → δ} {k : α → β → Res γ} {f g : Ro → Res PyData} {ra : Res α} {rb : Res β} {r : Res γ} (op : B2 s ea eb ec k) (hf : TE L f ra ea) (hg : TE L g rb eb) (hr : r = ra.bind fun a => rb.bind fun b => k a b := by first | rfl | (simp only [Res.bind_ok, Res.assoc, Res.pure]; done)) : TE L (e1 s (eCons f (eCons g eNil))) r ec := t_call2 (m := fun ds => ofO (s ds)) op hf hg hr
theorem t_tup1 {f : Ro → Res PyData} {ra : Res α} {e : α → PyData} {r : Res (List α)} (hf : TE L f ra e) (hr : r = ra.bind fun a => .ok [a] := by first | rfl | (simp only [Res.bind_ok, Res.assoc, Res.pure]; done)) : TE L (e1 tupD (eCons f eNil)) r (eT e) := t_call1 (m := fun ds => ofO (tupD ds)) (s := fun a => .ok [a]) (e1 := e) (fun _ => rfl) hf hr
theorem t_tup2 {f g : Ro → Res PyData} {ra : Res α} {rb : Res β} {e : α → PyData} {e' : β → PyData} {r : Res (α × β)} (hf : TE L f ra e) (hg : TE L g rb e') (hr : r = ra.bind fun a => rb.bind fun b => .ok (a, b) := by first | rfl | (simp only [Res.bind_ok, Res.assoc, Res.pure]; done)) : TE L (e1 tupD (eCons f (eCons g eNil))) r (eP e e') := t_call2 (m := fun ds => ofO (tupD ds)) (s := fun a b => .ok (a, b)) (e1 := e) (e2 := e') (fun _ _ => rfl) hf hg hr
theorem t_tup3 {f g h : Ro → Res PyData} {ra : Res α} {rb : Res β} {rc : Res γ} {e : α → PyData} {e' : β → PyData} {e'' : γ → PyData} {r : Res (α × β × γ)} (hf : TE L f ra e) (hg : TE L g rb e') (hh : TE L h rc e'') (hr : r = ra.bind fun a => rb.bind fun b => rc.bind fun c => .ok (a, b, c) := by first | rfl | (simp only [Res.bind_ok, Res.assoc, Res.pure]; done)) : TE L (e1 tupD (eCons f (eCons g (eCons h eNil)))) r (eP3 e e' e'') := t_call3 (m := fun ds => ofO (tupD ds)) (s := fun a b c => .ok (a, b, c)) (e1 := e) (e2 := e') (e3 := e'') (fun _ _ _ => rfl) hf hg hh hr
theorem t_tup4 {f g h i : Ro → Res PyData} {ra : Res α} {rb : Res β} {rc : Res γ} {rd : Res δ} {e : α → PyData} {e' : β → PyData} {e'' : γ → PyData} {e3 : δ → PyData} {r : Res (α × β × γ × δ)} (hf : TE L f ra e) (hg : TE L g rb e') (hh : TE L h rc e'') (hi : TE L i rd e3) (hr : r = ra.bind fun a => rb.bind fun b => rc.bind fun c => rd.bind fun d => .ok (a, b, c, d) := by first | rfl | (simp only [Res.bind_ok, Res.assoc, Res.pure]; done)) : TE L (e1 tupD (eCons f (eCons g (eCons h (eCons i eNil))))) r (eP4 e e' e'' e3) := t_call4 (m := fun ds => ofO (tupD ds)) (s := fun a b c d => .ok (a, b, c, d)) (e1 := e) (e2 := e') (e3 := e'') (e4 := e3) (fun _ _ _ _ => rfl) hf hg hh hi hr
/-- rows -/
theorem t_lnil {e : α → PyData} {r : Res (List α)} (hr : r = .ok [] := by first | rfl | (simp only [Res.bind_ok, Res.assoc, Res.pure]; done)) : TE L eNil r (List.map e) := by
  subst hr; exact fun ρ g => rfl
theorem t_lcons {e : α → PyData} {f : Ro → Res PyData} {g : Ro → Res (List PyData)} {ra : Res α} {rb : Res (List α)} {r : Res (List α)} (hf : TE L f ra e) (hg : TE L g rb (List.map e)) (hr : r = ra.bind fun a => rb.bind fun b => .ok (a :: b) := by first | rfl | (simp only [Res.bind_ok, Res.assoc, Res.pure]; done)) : TE L (eCons f g) r (List.map e) := by
  subst hr; exact fun ρ h => (hf ρ h).bind fun a => (hg ρ h).bind fun b => rfl
theorem t_lstar {e : α → PyData} {f : Ro → Res PyData} {g : Ro → Res (List PyData)} {ra : Res (List α)} {rb : Res (List α)} {r : Res (List α)} (hf : TE L f ra (eL e)) (hg : TE L g rb (List.map e)) (hr : r = ra.bind fun a => rb.bind fun b => .ok (a ++ b) := by first | rfl | (simp only [Res.bind_ok, Res.assoc, Res.pure]; done)) : TE L (eStar f g) r (List.map e) := by
  subst hr; exact fun ρ h => (hf ρ h).bind fun a => (hg ρ h).bind fun b => by simp [eL, itL, RR]
theorem t_lstarT {e : α → PyData} {f : Ro → Res PyData} {g : Ro → Res (List PyData)} {ra : Res (List α)} {rb : Res (List α)} {r : Res (List α)} (hf : TE L f ra (eT e)) (hg : TE L g rb (List.map e)) (hr : r = ra.bind fun a => rb.bind fun b => .ok (a ++ b) := by first | rfl | (simp only [Res.bind_ok, Res.assoc, Res.pure]; done)) : TE L (eStar f g) r (List.map e) := by
  subst hr; exact fun ρ h => (hf ρ h).bind fun a => (hg ρ h).bind fun b => by simp [eT, itL, RR]
theorem t_list {e : α → PyData} {f : Ro → Res (List PyData)} {r : Res (List α)} (hf : TE L f r (List.map e)) : TE L (e1 listD f) r (eL e) := fun ρ h => by
  have := hf ρ h
  show RR r (eL e) ((f ρ).bind fun d => ofO (listD d))
  cases r with
  | ok a => have q : f ρ = .ok (a.map e) := this; rw [q]; rfl
  | exc c k => have q : f ρ = .exc c k := this; rw [q]; rfl
  | bad => trivial
theorem t_tupV {e : α → PyData} {f : Ro → Res (List PyData)} {r : Res (List α)} (hf : TE L f r (List.map e)) : TE L (e1 tupD f) r (eT e) := fun ρ h => by
  have := hf ρ h
  show RR r (eT e) ((f ρ).bind fun d => ofO (tupD d))
  cases r with
  | ok a => have q : f ρ = .ok (a.map e) := this; rw [q]; rfl
  | exc c k => have q : f ρ = .exc c k := this; rw [q]; rfl
  | bad => trivial
@[irreducible] def lenR (xs : List α) : Res (List α) := if xs.length ≤ 16777216 then .ok xs else .bad
theorem t_lenOk {e : α → PyData} {f : Ro → Res (List PyData)} {ra r : Res (List α)} (hf : TE L f ra (List.map e)) (hr : r = ra.bind lenR := by first | rfl | (simp only [Res.bind_ok, Res.assoc, Res.pure]; done)) : TE L (e1 lenOk f) r (List.map e) := by
  subst hr
  refine fun ρ h => (hf ρ h).bind fun a => ?_
  unfold lenR lenOk
  rw [List.length_map]
  split <;> first | rfl | trivial
/-- calls -/
theorem t_f1 {A1 : Type} {m : List PyData → Res PyData} {s : A1 → Res γ} {ec : γ → PyData} {e1 : A1 → PyData} {f1 : Ro → Res PyData} {r1 : Res A1} {r : Res γ} (hm : ∀ a1, RR (s a1) ec (m [e1 a1])) (h1 : TE L f1 r1 e1) (hr : r = r1.bind fun a1 => s a1 := by first | rfl | (simp only [Res.bind_ok, Res.assoc, Res.pure]; done)) : TE L (eCall m (eCons f1 eNil)) r ec := t_call1 hm h1 hr
theorem t_f2 {A1 A2 : Type} {m : List PyData → Res PyData} {s : A1 → A2 → Res γ} {ec : γ → PyData} {e1 : A1 → PyData} {e2 : A2 → PyData} {f1 f2 : Ro → Res PyData} {r1 : Res A1} {r2 : Res A2} {r : Res γ} (hm : ∀ a1 a2, RR (s a1 a2) ec (m [e1 a1, e2 a2])) (h1 : TE L f1 r1 e1) (h2 : TE L f2 r2 e2) (hr : r = r1.bind fun a1 => r2.bind fun a2 => s a1 a2 := by first | rfl | (simp only [Res.bind_ok, Res.assoc, Res.pure]; done)) : TE L (eCall m (eCons f1 (eCons f2 eNil))) r ec := t_call2 hm h1 h2 hr
theorem t_f3 {A1 A2 A3 : Type} {m : List PyData → Res PyData} {s : A1 → A2 → A3 → Res γ} {ec : γ → PyData} {e1 : A1 → PyData} {e2 : A2 → PyData} {e3 : A3 → PyData} {f1 f2 f3 : Ro → Res PyData} {r1 : Res A1} {r2 : Res A2} {r3 : Res A3} {r : Res γ} (hm : ∀ a1 a2 a3, RR (s a1 a2 a3) ec (m [e1 a1, e2 a2, e3 a3])) (h1 : TE L f1 r1 e1) (h2 : TE L f2 r2 e2) (h3 : TE L f3 r3 e3) (hr : r = r1.bind fun a1 => r2.bind fun a2 => r3.bind fun a3 => s a1 a2 a3 := by first | rfl | (simp only [Res.bind_ok, Res.assoc, Res.pure]; done)) : TE L (eCall m (eCons f1 (eCons f2 (eCons f3 eNil)))) r ec := t_call3 hm h1 h2 h3 hr
theorem t_f4 {A1 A2 A3 A4 : Type} {m : List PyData → Res PyData} {s : A1 → A2 → A3 → A4 → Res γ} {ec : γ → PyData} {e1 : A1 → PyData} {e2 : A2 → PyData} {e3 : A3 → PyData} {e4 : A4 → PyData} {f1 f2 f3 f4 : Ro → Res PyData} {r1 : Res A1} {r2 : Res A2} {r3 : Res A3} {r4 : Res A4} {r : Res γ} (hm : ∀ a1 a2 a3 a4, RR (s a1 a2 a3 a4) ec (m [e1 a1, e2 a2, e3 a3, e4 a4])) (h1 : TE L f1 r1 e1) (h2 : TE L f2 r2 e2) (h3 : TE L f3 r3 e3) (h4 : TE L f4 r4 e4) (hr : r = r1.bind fun a1 => r2.bind fun a2 => r3.bind fun a3 => r4.bind fun a4 => s a1 a2 a3 a4 := by first | rfl | (simp only [Res.bind_ok, Res.assoc, Res.pure]; done)) : TE L (eCall m (eCons f1 (eCons f2 (eCons f3 (eCons f4 eNil))))) r ec := t_call4 hm h1 h2 h3 h4 hr
theorem t_f5 {A1 A2 A3 A4 A5 : Type} {m : List PyData → Res PyData} {s : A1 → A2 → A3 → A4 → A5 → Res γ} {ec : γ → PyData} {e1 : A1 → PyData} {e2 : A2 → PyData} {e3 : A3 → PyData} {e4 : A4 → PyData} {e5 : A5 → PyData} {f1 f2 f3 f4 f5 : Ro → Res PyData} {r1 : Res A1} {r2 : Res A2} {r3 : Res A3} {r4 : Res A4} {r5 : Res A5} {r : Res γ} (hm : ∀ a1 a2 a3 a4 a5, RR (s a1 a2 a3 a4 a5) ec (m [e1 a1, e2 a2, e3 a3, e4 a4, e5 a5])) (h1 : TE L f1 r1 e1) (h2 : TE L f2 r2 e2) (h3 : TE L f3 r3 e3) (h4 : TE L f4 r4 e4) (h5 : TE L f5 r5 e5) (hr : r = r1.bind fun a1 => r2.bind fun a2 => r3.bind fun a3 => r4.bind fun a4 => r5.bind fun a5 => s a1 a2 a3 a4 a5 := by first | rfl | (simp only [Res.bind_ok, Res.assoc, Res.pure]; done)) : TE L (eCall m (eCons f1 (eCons f2 (eCons f3 (eCons f4 (eCons f5 eNil)))))) r ec := t_call5 hm h1 h2 h3 h4 h5 hr
theorem t_f6 {A1 A2 A3 A4 A5 A6 : Type} {m : List PyData → Res PyData} {s : A1 → A2 → A3 → A4 → A5 → A6 → Res γ} {ec : γ → PyData} {e1 : A1 → PyData} {e2 : A2 → PyData} {e3 : A3 → PyData} {e4 : A4 → PyData} {e5 : A5 → PyData} {e6 : A6 → PyData} {f1 f2 f3 f4 f5 f6 : Ro → Res PyData} {r1 : Res A1} {r2 : Res A2} {r3 : Res A3} {r4 : Res A4} {r5 : Res A5} {r6 : Res A6} {r : Res γ} (hm : ∀ a1 a2 a3 a4 a5 a6, RR (s a1 a2 a3 a4 a5 a6) ec (m [e1 a1, e2 a2, e3 a3, e4 a4, e5 a5, e6 a6])) (h1 : TE L f1 r1 e1) (h2 : TE L f2 r2 e2) (h3 : TE L f3 r3 e3) (h4 : TE L f4 r4 e4) (h5 : TE L f5 r5 e5) (h6 : TE L f6 r6 e6) (hr : r = r1.bind fun a1 => r2.bind fun a2 => r3.bind fun a3 => r4.bind fun a4 => r5.bind fun a5 => r6.bind fun a6 => s a1 a2 a3 a4 a5 a6 := by first | rfl | (simp only [Res.bind_ok, Res.assoc, Res.pure]; done)) : TE L (eCall m (eCons f1 (eCons f2 (eCons f3 (eCons f4 (eCons f5 (eCons f6 eNil))))))) r ec := t_call6 hm h1 h2 h3 h4 h5 h6 hr
theorem t_f7 {A1 A2 A3 A4 A5 A6 A7 : Type} {m : List PyData → Res PyData} {s : A1 → A2 → A3 → A4 → A5 → A6 → A7 → Res γ} {ec : γ → PyData} {e1 : A1 → PyData} {e2 : A2 → PyData} {e3 : A3 → PyData} {e4 : A4 → PyData} {e5 : A5 → PyData} {e6 : A6 → PyData} {e7 : A7 → PyData} {f1 f2 f3 f4 f5 f6 f7 : Ro → Res PyData} {r1 : Res A1} {r2 : Res A2} {r3 : Res A3} {r4 : Res A4} {r5 : Res A5} {r6 : Res A6} {r7 : Res A7} {r : Res γ} (hm : ∀ a1 a2 a3 a4 a5 a6 a7, RR (s a1 a2 a3 a4 a5 a6 a7) ec (m [e1 a1, e2 a2, e3 a3, e4 a4, e5 a5, e6 a6, e7 a7])) (h1 : TE L f1 r1 e1) (h2 : TE L f2 r2 e2) (h3 : TE L f3 r3 e3) (h4 : TE L f4 r4 e4) (h5 : TE L f5 r5 e5) (h6 : TE L f6 r6 e6) (h7 : TE L f7 r7 e7) (hr : r = r1.bind fun a1 => r2.bind fun a2 => r3.bind fun a3 => r4.bind fun a4 => r5.bind fun a5 => r6.bind fun a6 => r7.bind fun a7 => s a1 a2 a3 a4 a5 a6 a7 := by first | rfl | (simp only [Res.bind_ok, Res.assoc, Res.pure]; done)) : TE L (eCall m (eCons f1 (eCons f2 (eCons f3 (eCons f4 (eCons f5 (eCons f6 (eCons f7 eNil)))))))) r ec := t_call7 hm h1 h2 h3 h4 h5 h6 h7 hr
theorem t_f8 {A1 A2 A3 A4 A5 A6 A7 A8 : Type} {m : List PyData → Res PyData} {s : A1 → A2 → A3 → A4 → A5 → A6 → A7 → A8 → Res γ} {ec : γ → PyData} {e1 : A1 → PyData} {e2 : A2 → PyData} {e3 : A3 → PyData} {e4 : A4 → PyData} {e5 : A5 → PyData} {e6 : A6 → PyData} {e7 : A7 → PyData} {e8 : A8 → PyData} {f1 f2 f3 f4 f5 f6 f7 f8 : Ro → Res PyData} {r1 : Res A1} {r2 : Res A2} {r3 : Res A3} {r4 : Res A4} {r5 : Res A5} {r6 : Res A6} {r7 : Res A7} {r8 : Res A8} {r : Res γ} (hm : ∀ a1 a2 a3 a4 a5 a6 a7 a8, RR (s a1 a2 a3 a4 a5 a6 a7 a8) ec (m [e1 a1, e2 a2, e3 a3, e4 a4, e5 a5, e6 a6, e7 a7, e8 a8])) (h1 : TE L f1 r1 e1) (h2 : TE L f2 r2 e2) (h3 : TE L f3 r3 e3) (h4 : TE L f4 r4 e4) (h5 : TE L f5 r5 e5) (h6 : TE L f6 r6 e6) (h7 : TE L f7 r7 e7) (h8 : TE L f8 r8 e8) (hr : r = r1.bind fun a1 => r2.bind fun a2 => r3.bind fun a3 => r4.bind fun a4 => r5.bind fun a5 => r6.bind fun a6 => r7.bind fun a7 => r8.bind fun a8 => s a1 a2 a3 a4 a5 a6 a7 a8 := by first | rfl | (simp only [Res.bind_ok, Res.assoc, Res.pure]; done)) : TE L (eCall m (eCons f1 (eCons f2 (eCons f3 (eCons f4 (eCons f5 (eCons f6 (eCons f7 (eCons f8 eNil))))))))) r ec := t_call8 hm h1 h2 h3 h4 h5 h6 h7 h8 hr
theorem t_f9 {A1 A2 A3 A4 A5 A6 A7 A8 A9 : Type} {m : List PyData → Res PyData} {s : A1 → A2 → A3 → A4 → A5 → A6 → A7 → A8 → A9 → Res γ} {ec : γ → PyData} {e1 : A1 → PyData} {e2 : A2 → PyData} {e3 : A3 → PyData} {e4 : A4 → PyData} {e5 : A5 → PyData} {e6 : A6 → PyData} {e7 : A7 → PyData} {e8 : A8 → PyData} {e9 : A9 → PyData} {f1 f2 f3 f4 f5 f6 f7 f8 f9 : Ro → Res PyData} {r1 : Res A1} {r2 : Res A2} {r3 : Res A3} {r4 : Res A4} {r5 : Res A5} {r6 : Res A6} {r7 : Res A7} {r8 : Res A8} {r9 : Res A9} {r : Res γ} (hm : ∀ a1 a2 a3 a4 a5 a6 a7 a8 a9, RR (s a1 a2 a3 a4 a5 a6 a7 a8 a9) ec (m [e1 a1, e2 a2, e3 a3, e4 a4, e5 a5, e6 a6, e7 a7, e8 a8, e9 a9])) (h1 : TE L f1 r1 e1) (h2 : TE L f2 r2 e2) (h3 : TE L f3 r3 e3) (h4 : TE L f4 r4 e4) (h5 : TE L f5 r5 e5) (h6 : TE L f6 r6 e6) (h7 : TE L f7 r7 e7) (h8 : TE L f8 r8 e8) (h9 : TE L f9 r9 e9) (hr : r = r1.bind fun a1 => r2.bind fun a2 => r3.bind fun a3 => r4.bind fun a4 => r5.bind fun a5 => r6.bind fun a6 => r7.bind fun a7 => r8.bind fun a8 => r9.bind fun a9 => s a1 a2 a3 a4 a5 a6 a7 a8 a9 := by first | rfl | (simp only [Res.bind_ok, Res.assoc, Res.pure]; done)) : TE L (eCall m (eCons f1 (eCons f2 (eCons f3 (eCons f4 (eCons f5 (eCons f6 (eCons f7 (eCons f8 (eCons f9 eNil)))))))))) r ec := t_call9 hm h1 h2 h3 h4 h5 h6 h7 h8 h9 hr
theorem t_f10 {A1 A2 A3 A4 A5 A6 A7 A8 A9 A10 : Type} {m : List PyData → Res PyData} {s : A1 → A2 → A3 → A4 → A5 → A6 → A7 → A8 → A9 → A10 → Res γ} {ec : γ → PyData} {e1 : A1 → PyData} {e2 : A2 → PyData} {e3 : A3 → PyData} {e4 : A4 → PyData} {e5 : A5 → PyData} {e6 : A6 → PyData} {e7 : A7 → PyData} {e8 : A8 → PyData} {e9 : A9 → PyData} {e10 : A10 → PyData} {f1 f2 f3 f4 f5 f6 f7 f8 f9 f10 : Ro → Res PyData} {r1 : Res A1} {r2 : Res A2} {r3 : Res A3} {r4 : Res A4} {r5 : Res A5} {r6 : Res A6} {r7 : Res A7} {r8 : Res A8} {r9 : Res A9} {r10 : Res A10} {r : Res γ} (hm : ∀ a1 a2 a3 a4 a5 a6 a7 a8 a9 a10, RR (s a1 a2 a3 a4 a5 a6 a7 a8 a9 a10) ec (m [e1 a1, e2 a2, e3 a3, e4 a4, e5 a5, e6 a6, e7 a7, e8 a8, e9 a9, e10 a10])) (h1 : TE L f1 r1 e1) (h2 : TE L f2 r2 e2) (h3 : TE L f3 r3 e3) (h4 : TE L f4 r4 e4) (h5 : TE L f5 r5 e5) (h6 : TE L f6 r6 e6) (h7 : TE L f7 r7 e7) (h8 : TE L f8 r8 e8) (h9 : TE L f9 r9 e9) (h10 : TE L f10 r10 e10) (hr : r = r1.bind fun a1 => r2.bind fun a2 => r3.bind fun a3 => r4.bind fun a4 => r5.bind fun a5 => r6.bind fun a6 => r7.bind fun a7 => r8.bind fun a8 => r9.bind fun a9 => r10.bind fun a10 => s a1 a2 a3 a4 a5 a6 a7 a8 a9 a10 := by first | rfl | (simp only [Res.bind_ok, Res.assoc, Res.pure]; done)) : TE L (eCall m (eCons f1 (eCons f2 (eCons f3 (eCons f4 (eCons f5 (eCons f6 (eCons f7 (eCons f8 (eCons f9 (eCons f10 eNil))))))))))) r ec := t_call10 hm h1 h2 h3 h4 h5 h6 h7 h8 h9 h10 hr

/-- tests -/
theorem t_tb {f : Ro → Res PyData} {r : Res Bool} (hf : TE L f r eBo) : TE L (eTb f) r eId := fun ρ h => by
  have := hf ρ h
  show RR r eId ((f ρ).bind fun d => ofO (asB d))
  cases r with
  | ok a => have q : f ρ = .ok (eBo a) := this; rw [q]; rfl
  | exc c k => have q : f ρ = .exc c k := this; rw [q]; rfl
  | bad => trivial
theorem t_bool {c : Ro → Res Bool} {r : Res Bool} (hf : TE L c r eId) : TE L (eBool c) r eBo := fun ρ h => by
  have := hf ρ h
  show RR r eBo ((c ρ).bind fun b => .ok (.bool b))
  cases r with
  | ok a => have q : c ρ = .ok a := this; rw [q]; rfl
  | exc c' k => have q : c ρ = .exc c' k := this; rw [q]; rfl
  | bad => trivial
theorem t_true {r : Res Bool} (hr : r = .ok true := by first | rfl | (simp only [Res.bind_ok, Res.assoc, Res.pure]; done)) : TE L eTrue r eId := by
  subst hr; exact fun ρ g => rfl
theorem t_not {c : Ro → Res Bool} {ra r : Res Bool} (hf : TE L c ra eId) (hr : r = ra.bind fun b => .ok (!b) := by first | rfl | (simp only [Res.bind_ok, Res.assoc, Res.pure]; done)) : TE L (eNot c) r eId := by
  subst hr; exact fun ρ h => (hf ρ h).bind fun b => rfl
theorem t_and {c d : Ro → Res Bool} {ra rb r : Res Bool} (hf : TE L c ra eId) (hg : TE L d rb eId) (hr : r = ra.bind fun b => if b = true then rb else .ok false := by first | rfl | (simp only [Res.bind_ok, Res.assoc, Res.pure]; done)) : TE L (eAnd c d) r eId := by
  subst hr
  refine fun ρ h => (hf ρ h).bind fun b => ?_
  cases b
  · rfl
  · exact hg ρ h
theorem t_or {c d : Ro → Res Bool} {ra rb r : Res Bool} (hf : TE L c ra eId) (hg : TE L d rb eId) (hr : r = ra.bind fun b => if b = true then .ok true else rb := by first | rfl | (simp only [Res.bind_ok, Res.assoc, Res.pure]; done)) : TE L (eOr c d) r eId := by
  subst hr
  refine fun ρ h => (hf ρ h).bind fun b => ?_
  cases b
  · exact hg ρ h
  · rfl
/-- flat ones -/
theorem t_andP {c d : Ro → Res Bool} {a b : Bool} {r : Res Bool} (hf : TE L c (.ok a) eId) (hg : TE L d (.ok b) eId) (hr : r = .ok (a && b) := by first | rfl | (simp only [Res.bind_ok, Res.assoc, Res.pure]; done)) : TE L (eAnd c d) r eId := by
  refine t_and hf hg ?_
  subst hr; cases a <;> rfl
theorem t_orP {c d : Ro → Res Bool} {a b : Bool} {r : Res Bool} (hf : TE L c (.ok a) eId) (hg : TE L d (.ok b) eId) (hr : r = .ok (a || b) := by first | rfl | (simp only [Res.bind_ok, Res.assoc, Res.pure]; done)) : TE L (eOr c d) r eId := by
  refine t_or hf hg ?_
  subst hr; cases a <;> rfl
theorem t_if {α' : Type} {e : α → α'} {c : Ro → Res Bool} {f g : Ro → Res α'} {rc : Res Bool} {ra rb r : Res α} (hc : TE L c rc eId) (hf : TE L f ra e) (hg : TE L g rb e) (hr : r = rc.bind fun b => if b = true then ra else rb := by first | rfl | (simp only [Res.bind_ok, Res.assoc, Res.pure]; done)) : TE L (eIf c f g) r e := by
  subst hr
  refine fun ρ h => (hc ρ h).bind fun b => ?_
  cases b
  · exact hg ρ h
  · exact hf ρ h
theorem t_ifP {α' : Type} {e : α → α'} {c : Ro → Res Bool} {f g : Ro → Res α'} {b : Bool} {x y : α} {r : Res α} (hc : TE L c (.ok b) eId) (hf : TE L f (.ok x) e) (hg : TE L g (.ok y) e) (hr : r = .ok (if b = true then x else y) := by first | rfl | (simp only [Res.bind_ok, Res.assoc, Res.pure]; done)) : TE L (eIf c f g) r e := by
  refine t_if hc hf hg ?_
  subst hr; cases b <;> rfl
/-- comparisons of numbers -/
def CmpI (s : PyData → PyData → Option PyData) (p : Int → Int → Bool) : Prop := ∀ a b, s (.int a) (.int b) = some (.bool (p a b))
theorem ci_lt : CmpI ltD (fun a b => decide (a < b)) := fun _ _ => rfl
theorem ci_le : CmpI leD (fun a b => decide (a ≤ b)) := fun _ _ => rfl
theorem ci_gt : CmpI gtD (fun a b => decide (b < a)) := fun _ _ => rfl
theorem ci_ge : CmpI geD (fun a b => decide (b ≤ a)) := fun _ _ => rfl
theorem ci_eq : CmpI eqD (fun a b => decide (a = b)) := fun a b => by
  simp [eqD, SeqAt.shaped, PyData.canLay0, PyData.depth, PyData.eqv]
  by_cases h : a = b <;> simp [h]
theorem ci_ne : CmpI neD (fun a b => !decide (a = b)) := fun a b => by
  simp [neD, SeqAt.shaped, PyData.canLay0, PyData.depth, PyData.eqv]
  by_cases h : a = b <;> simp [h]
theorem t_cmp {s : PyData → PyData → Option PyData} {p : Int → Int → Bool} {f g : Ro → Res PyData} {ra rb : Res Int} {r : Res Bool} (op : CmpI s p) (hf : TE L f ra eI) (hg : TE L g rb eI) (hr : r = ra.bind fun a => rb.bind fun b => .ok (p a b) := by first | rfl | (simp only [Res.bind_ok, Res.assoc, Res.pure]; done)) : TE L (e2 s f g) r eBo :=
  t_e2 (k := fun a b => .ok (p a b)) (fun a b => by rw [op a b]; rfl) hf hg hr
theorem t_chain {s s' : PyData → PyData → Option PyData} {p q : Int → Int → Bool} {f g h : Ro → Res PyData} {ra rb rc : Res Int} {r : Res Bool} (op : CmpI s p) (op' : CmpI s' q) (hf : TE L f ra eI) (hg : TE L g rb eI) (hh : TE L h rc eI) (hr : r = ra.bind fun a => rb.bind fun b => if p a b = true then rc.bind fun c => .ok (q b c) else .ok false := by first | rfl | (simp only [Res.bind_ok, Res.assoc, Res.pure]; done)) : TE L (eChain s s' f g h) r eId := by
  subst hr
  refine fun ρ z => (hf ρ z).bind fun a => (hg ρ z).bind fun b => ?_
  rw [op a b]
  show RR _ _ ((ofO (asB (.bool (p a b)))).bind _)
  simp only [asB_bool, ofO_some, Res.bind_ok]
  cases p a b with
  | false => rfl
  | true =>
    simp only [if_true]
    exact (hh ρ z).bind fun c => by rw [op' b c]; rfl
theorem t_chainP {s s' : PyData → PyData → Option PyData} {p q : Int → Int → Bool} {f g h : Ro → Res PyData} {a b c : Int} {r : Res Bool} (op : CmpI s p) (op' : CmpI s' q) (hf : TE L f (.ok a) eI) (hg : TE L g (.ok b) eI) (hh : TE L h (.ok c) eI) (hr : r = .ok (p a b && q b c) := by first | rfl | (simp only [Res.bind_ok, Res.assoc, Res.pure]; done)) : TE L (eChain s s' f g h) r eId := by
  refine t_chain op op' hf hg hh ?_
  subst hr
  show _ = if p a b = true then Res.ok (q b c) else .ok false
  cases p a b <;> rfl
/-- coercions -/
theorem t_some {f : Ro → Res PyData} {e : α → PyData} {ra : Res α} {r : Res (Option α)} (hf : TE L f ra e) (hr : r = ra.bind fun a => .ok (some a) := by first | rfl | (simp only [Res.bind_ok, Res.assoc, Res.pure]; done)) : TE L f r (eO e) := by
  subst hr
  intro ρ g
  have := hf ρ g
  cases ra <;> exact this
theorem t_dyn {f : Ro → Res PyData} {e : α → PyData} {ra : Res α} {r : Res PyData} (hf : TE L f ra e) (hr : r = ra.bind fun a => .ok (e a) := by first | rfl | (simp only [Res.bind_ok, Res.assoc, Res.pure]; done)) : TE L f r eD := by
  subst hr
  intro ρ g
  have := hf ρ g
  cases ra <;> exact this
def unO (o : Option α) : Res α := match o with
  | some a => .ok a
  | none => .bad
theorem t_unO {f : Ro → Res PyData} {e : α → PyData} {ra : Res (Option α)} {r : Res α} (hf : TE L f ra (eO e)) (hr : r = ra.bind unO := by first | rfl | (simp only [Res.bind_ok, Res.assoc, Res.pure]; done)) : TE L f r e := by
  subst hr
  intro ρ g
  have := hf ρ g
  cases ra with
  | ok o => cases o with
    | none => trivial
    | some a => exact this
  | exc c k => exact this
  | bad => trivial
end
end Pf
/-! Ts2: operators, built-ins, comprehensions by typed functions. -/
namespace Pf
open PySem PySem.Spec PyProof.Rows L2
section
variable {α β γ δ : Type}
theorem RR.ofOp {x : α} {e : α → β} {o : Option β} (h : o = some (e x)) : RR (.ok x) e (ofO o) := by subst h; rfl
theorem RR.iff {c : Prop} [Decidable c] {x : α} {e : α → β} {o : Option β} (h : c → o = some (e x)) : RR (if c then .ok x else .bad) e (ofO o) := by
  by_cases hc : c
  · rw [if_pos hc, h hc]; rfl
  · rw [if_neg hc]; trivial

/-! ### numbers -/
@[irreducible] def mulR (a b : Int) : Res Int := if okMul a b = true then .ok (a * b) else .bad
@[irreducible] def divR (a b : Int) : Res Int := if 0 < b ∧ b.natAbs.log2 < 9000 then .ok (a / b) else .bad
@[irreducible] def modR (a b : Int) : Res Int := if 0 < b then .ok (a % b) else .bad
@[irreducible] def powR (a b : Int) : Res Int := if 0 ≤ b ∧ b.toNat ≤ 1000000 ∧ a.natAbs < 2 ^ 64 then .ok (a ^ b.toNat) else .bad
theorem op_add : Op2 addD eI eI eI (fun a b => .ok (a + b)) := fun a b => rfl
theorem op_sub : Op2 subD eI eI eI (fun a b => .ok (a - b)) := fun a b => rfl
theorem op_mul : Op2 mulD eI eI eI mulR := fun a b => by unfold mulR; exact RR.iff fun h => mulD_int h
theorem op_div : Op2 divD eI eI eI divR := fun a b => by unfold divR; exact RR.iff fun h => divD_int h.1 h.2
theorem op_mod : Op2 modD eI eI eI modR := fun a b => by unfold modR; exact RR.iff fun h => modD_int h
theorem op_pow : Op2 powD eI eI eI powR := fun a b => by
  unfold powR
  refine RR.iff fun h => ?_
  have h' : 0 ≤ b ∧ b ≤ 1000000 ∧ a.natAbs < 2 ^ 64 := ⟨h.1, by omega, h.2.2⟩
  simp [powD, h']
theorem op_neg : Op1 negD eI eI (fun a => .ok (-a)) := fun a => rfl
theorem b_abs : B1 absD eI eI (fun a => .ok (a.natAbs : Int)) := fun a => .ofOp (absD_int a)
theorem b_int : B1 intD eI eI (fun a => .ok a) := fun a => rfl
theorem b_intB : B1 intD eBo eI (fun a => .ok (if a = true then 1 else 0)) := fun a => rfl
theorem b_max2 : B2 max2D eI eI eI (fun a b => .ok (max a b)) := fun a b => .ofOp (max2D_int a b)
theorem b_min2 : B2 min2D eI eI eI (fun a b => .ok (min a b)) := fun a b => .ofOp (min2D_int a b)
/-! with a number told -/
theorem t_modc {L : Pn} {f : Ro → Res PyData} {n : Int} {ra r : Res Int} (hf : TE L f ra eI) (hn : 0 < n := by decide) (hr : r = ra.bind fun a => .ok (a % n) := by first | rfl | (simp only [Res.bind_ok, Res.assoc, Res.pure]; done)) : TE L (e2 modD f (eC (.int n))) r eI :=
  t_e2 (k := fun a b => if b = n then .ok (a % n) else .bad) (fun a b => RR.iff fun h => by subst h; exact modD_int hn) hf (t_c rfl) (by subst hr; cases ra <;> simp [Res.bind])
theorem t_divc {L : Pn} {f : Ro → Res PyData} {n : Int} {ra r : Res Int} (hf : TE L f ra eI) (hn : 0 < n ∧ n.natAbs.log2 < 9000 := by decide) (hr : r = ra.bind fun a => .ok (a / n) := by first | rfl | (simp only [Res.bind_ok, Res.assoc, Res.pure]; done)) : TE L (e2 divD f (eC (.int n))) r eI :=
  t_e2 (k := fun a b => if b = n then .ok (a / n) else .bad) (fun a b => RR.iff fun h => by subst h; exact divD_int hn.1 hn.2) hf (t_c rfl) (by subst hr; cases ra <;> simp [Res.bind])
theorem t_powc {L : Pn} {a b c : Int} {r : Res Int} (h : 0 ≤ b ∧ b ≤ 1000000 ∧ a.natAbs < 2 ^ 64 ∧ a ^ b.toNat = c := by decide) (hr : r = .ok c := by first | rfl | (simp only [Res.bind_ok, Res.assoc, Res.pure]; done)) : TE L (e2 powD (eC (.int a)) (eC (.int b))) r eI := by
  subst hr
  intro ρ _
  have : powD (.int a) (.int b) = some (.int c) := by simp [powD, h]
  show RR _ _ (ofO (powD (.int a) (.int b)))
  rw [this]; rfl

/-! ### what is shaped, equality -/
theorem canAll_map {e : α → PyData} (h : ∀ a, PyData.canLay0 (e a) = true) : ∀ xs : List α, PyData.canLayAll0 (xs.map e) = true
  | [] => rfl
  | a :: xs => by simp [PyData.canLayAll0, h a, canAll_map h xs]
theorem depthAll_map {e : α → PyData} {d : Nat} (h : ∀ a, PyData.depth (e a) ≤ d) : ∀ xs : List α, PyData.depthAll (xs.map e) ≤ d
  | [] => by simp [PyData.depthAll]
  | a :: xs => by simp only [List.map_cons, PyData.depthAll]; have := h a; have := depthAll_map h xs; omega
/-- few, shallow, told by == -/
class GE {α : Type} (e : α → PyData) (d : outParam Nat) : Prop where
  lay : ∀ a, PyData.canLay0 (e a) = true
  dep : ∀ a, PyData.depth (e a) ≤ d
  inj : ∀ a b, PyData.eqv (e a) (e b) = true ↔ a = b
/-- not None -/
class NN {α : Type} (e : α → PyData) : Prop where
  nn : ∀ a, isNo (e a) = false
theorem eqv_none {d : PyData} (h : isNo d = false) : PyData.eqv .none d = false ∧ PyData.eqv d .none = false := by
  cases d <;> simp_all [PyData.eqv, isNo]
theorem eqvAll_map {e : α → PyData} (h : ∀ a b, PyData.eqv (e a) (e b) = true ↔ a = b) : ∀ xs ys : List α, PyData.eqvAll (xs.map e) (ys.map e) = true ↔ xs = ys
  | [], [] => by simp [PyData.eqvAll]
  | [], y :: ys => by simp [PyData.eqvAll]
  | x :: xs, [] => by simp [PyData.eqvAll]
  | x :: xs, y :: ys => by simp [PyData.eqvAll, h x y, eqvAll_map h xs ys]
instance : GE eI 0 := ⟨fun _ => rfl, fun _ => Nat.le_refl _, fun a b => by simp [PyData.eqv]⟩
instance : GE eBo 0 := ⟨fun _ => rfl, fun _ => Nat.le_refl _, fun a b => by simp [PyData.eqv]⟩
instance : GE eU 0 := ⟨fun _ => rfl, fun _ => Nat.le_refl _, fun a b => by simp [eU, PyData.eqv]⟩
instance : NN eI := ⟨fun _ => rfl⟩
instance : NN eBo := ⟨fun _ => rfl⟩
instance : NN eS := ⟨fun _ => rfl⟩
instance {e : α → PyData} : NN (eL e) := ⟨fun _ => rfl⟩
instance {e : α → PyData} : NN (eT e) := ⟨fun _ => rfl⟩
instance {e : α → PyData} {f : β → PyData} : NN (eP e f) := ⟨fun _ => rfl⟩
instance {e : α → PyData} {f : β → PyData} {g : γ → PyData} : NN (eP3 e f g) := ⟨fun _ => rfl⟩
instance {e : α → PyData} {f : β → PyData} {g : γ → PyData} {h : δ → PyData} : NN (eP4 e f g h) := ⟨fun _ => rfl⟩
instance {e : α → PyData} {d : Nat} [G : GE e d] : GE (eL e) (d + 1) := ⟨fun a => by simp only [eL, PyData.canLay0]; exact canAll_map G.lay a, fun a => by simp only [eL, PyData.depth]; have := depthAll_map G.dep a; omega, fun a b => by simp only [eL, PyData.eqv]; exact eqvAll_map G.inj a b⟩
instance {e : α → PyData} {d : Nat} [G : GE e d] : GE (eT e) (d + 1) := ⟨fun a => by simp only [eT, PyData.canLay0]; exact canAll_map G.lay a, fun a => by simp only [eT, PyData.depth]; have := depthAll_map G.dep a; omega, fun a b => by simp only [eT, PyData.eqv]; exact eqvAll_map G.inj a b⟩
instance {e : α → PyData} {f : β → PyData} {d d' : Nat} [G : GE e d] [G' : GE f d'] : GE (eP e f) (max d d' + 1) := ⟨fun a => by simp [eP, PyData.canLay0, PyData.canLayAll0, G.lay, G'.lay], fun a => by simp only [eP, PyData.depth, PyData.depthAll]; have := G.dep a.1; have := G'.dep a.2; omega, fun a b => by
  simp only [eP, PyData.eqv, PyData.eqvAll, Bool.and_eq_true, G.inj, G'.inj, Prod.ext_iff, and_true]⟩
instance {e : α → PyData} {f : β → PyData} {g : γ → PyData} {d d' d'' : Nat} [G : GE e d] [G' : GE f d'] [G'' : GE g d''] : GE (eP3 e f g) (max d (max d' d'') + 1) := ⟨fun a => by simp [eP3, PyData.canLay0, PyData.canLayAll0, G.lay, G'.lay, G''.lay], fun a => by simp only [eP3, PyData.depth, PyData.depthAll]; have := G.dep a.1; have := G'.dep a.2.1; have := G''.dep a.2.2; omega, fun a b => by
  simp only [eP3, PyData.eqv, PyData.eqvAll, Bool.and_eq_true, G.inj, G'.inj, G''.inj, Prod.ext_iff, and_true]⟩
instance {e : α → PyData} {f : β → PyData} {g : γ → PyData} {h : δ → PyData} {d d' d'' d3 : Nat} [G : GE e d] [G' : GE f d'] [G'' : GE g d''] [G3 : GE h d3] : GE (eP4 e f g h) (max (max d d3) (max d' d'') + 1) := ⟨fun a => by simp [eP4, PyData.canLay0, PyData.canLayAll0, G.lay, G'.lay, G''.lay, G3.lay], fun a => by simp only [eP4, PyData.depth, PyData.depthAll]; have := G.dep a.1; have := G'.dep a.2.1; have := G''.dep a.2.2.1; have := G3.dep a.2.2.2; omega, fun a b => by
  simp only [eP4, PyData.eqv, PyData.eqvAll, Bool.and_eq_true, G.inj, G'.inj, G''.inj, G3.inj, Prod.ext_iff, and_true]⟩
instance {e : α → PyData} {d : Nat} [G : GE e d] [N : NN e] : GE (eO e) d := ⟨fun a => by cases a <;> simp [eO, PyData.canLay0, G.lay], fun a => by cases a <;> simp [eO, PyData.depth, G.dep], fun a b => by
  cases a with
  | none => cases b with
    | none => simp [eO, PyData.eqv]
    | some b => simp [eO, (eqv_none (N.nn b)).1]
  | some a => cases b with
    | none => simp [eO, (eqv_none (N.nn a)).2]
    | some b => simp [eO, G.inj]⟩
theorem GE.sh {e : α → PyData} {d : Nat} [G : GE e d] (h : d ≤ 64) (a : α) : SeqAt.shaped (e a) = true := by
  unfold SeqAt.shaped
  have := G.dep a
  simp [G.lay a]; omega
theorem GE.eqd {e : α → PyData} {d : Nat} [G : GE e d] [DecidableEq α] (a b : α) : PyData.eqv (e a) (e b) = decide (a = b) := by
  have := G.inj a b
  by_cases h : a = b
  · rw [decide_eq_true h]; exact this.mpr h
  · rw [decide_eq_false h]
    cases z : PyData.eqv (e a) (e b) with
    | false => rfl
    | true => exact absurd (this.mp z) h
theorem op_eq (e : α → PyData) {d : Nat} [GE e d] [DecidableEq α] (h : d ≤ 64 := by decide) : Op2 eqD e e eBo (fun a b => .ok (decide (a = b))) := fun a b => .ofOp (by
  unfold eqD
  rw [if_pos ⟨GE.sh h a, GE.sh h b⟩, GE.eqd])
theorem op_ne (e : α → PyData) {d : Nat} [GE e d] [DecidableEq α] (h : d ≤ 64 := by decide) : Op2 neD e e eBo (fun a b => .ok (!decide (a = b))) := fun a b => .ofOp (by
  unfold neD
  rw [if_pos ⟨GE.sh h a, GE.sh h b⟩, GE.eqd])
theorem any_in {e : α → PyData} {d : Nat} [GE e d] [DecidableEq α] (a : α) : ∀ xs : List α, ((xs.map e).any fun z => PyData.eqv z (e a)) = decide (a ∈ xs)
  | [] => rfl
  | x :: xs => by
    rw [List.map_cons, List.any_cons, any_in a xs, GE.eqd]
    by_cases h : a = x
    · subst h; simp
    · have : ¬ x = a := fun z => h z.symm
      simp [h, this]
theorem op_in (e : α → PyData) {d : Nat} [GE e d] [DecidableEq α] (h : d + 1 ≤ 64 := by decide) : Op2 inD e (eL e) eBo (fun a xs => .ok (decide (a ∈ xs))) := fun a xs => .ofOp (by
  show (if _ then some _ else none) = _
  rw [if_pos ⟨GE.sh (by omega) a, GE.sh (e := eL e) h xs⟩, any_in])
theorem op_nin (e : α → PyData) {d : Nat} [GE e d] [DecidableEq α] (h : d + 1 ≤ 64 := by decide) : Op2 ninD e (eL e) eBo (fun a xs => .ok (!decide (a ∈ xs))) := fun a xs => .ofOp (by
  show (if _ then some _ else none) = _
  rw [if_pos ⟨GE.sh (by omega) a, GE.sh (e := eL e) h xs⟩, any_in])
theorem op_itup (e : α → PyData) {d : Nat} [GE e d] [DecidableEq α] (h : d + 1 ≤ 64 := by decide) : Op2 inD e (eT e) eBo (fun a xs => .ok (decide (a ∈ xs))) := fun a xs => .ofOp (by
  show (if _ then some _ else none) = _
  rw [if_pos ⟨GE.sh (by omega) a, GE.sh (e := eT e) h xs⟩, any_in])
theorem op_nitup (e : α → PyData) {d : Nat} [GE e d] [DecidableEq α] (h : d + 1 ≤ 64 := by decide) : Op2 ninD e (eT e) eBo (fun a xs => .ok (!decide (a ∈ xs))) := fun a xs => .ofOp (by
  show (if _ then some _ else none) = _
  rw [if_pos ⟨GE.sh (by omega) a, GE.sh (e := eT e) h xs⟩, any_in])
/-- strings: any data, by its own words -/
def eqR (d e : PyData) : Res Bool := (ofO (eqD d e)).bind fun z => ofO (asB z)
def neR (d e : PyData) : Res Bool := (ofO (neD d e)).bind fun z => ofO (asB z)
theorem RR.asB {o : Option PyData} (h : ∀ d, o = some d → ∃ b, d = .bool b) : RR ((ofO o).bind fun z => ofO (asB z)) eBo (ofO o) := by
  cases o with
  | none => trivial
  | some d => obtain ⟨b, rfl⟩ := h d rfl; rfl
theorem op_eqR (e : α → PyData) (f : β → PyData) : Op2 eqD e f eBo (fun a b => eqR (e a) (f b)) := fun a b => RR.asB fun d h => by
  unfold eqD at h
  split at h
  · cases h; exact ⟨_, rfl⟩
  · cases h
theorem op_neR (e : α → PyData) (f : β → PyData) : Op2 neD e f eBo (fun a b => neR (e a) (f b)) := fun a b => RR.asB fun d h => by
  unfold neD at h
  split at h
  · cases h; exact ⟨_, rfl⟩
  · cases h
def inR (d e : PyData) : Res Bool := (ofO (inD d e)).bind fun z => ofO (asB z)
theorem op_inR (e : α → PyData) (f : β → PyData) : Op2 inD e f eBo (fun a b => inR (e a) (f b)) := fun a b => RR.asB fun d h => by
  unfold inD at h
  split at h
  · split at h
    · cases h; exact ⟨_, rfl⟩
    · cases h
  · split at h
    · cases h; exact ⟨_, rfl⟩
    · cases h
  · cases h
def ninR (d e : PyData) : Res Bool := (ofO (ninD d e)).bind fun z => ofO (asB z)
theorem op_ninR (e : α → PyData) (f : β → PyData) : Op2 ninD e f eBo (fun a b => ninR (e a) (f b)) := fun a b => RR.asB fun d h => by
  unfold ninD at h
  split at h
  · split at h
    · cases h; exact ⟨_, rfl⟩
    · cases h
  · split at h
    · cases h; exact ⟨_, rfl⟩
    · cases h
  · cases h
/-- any step on bare data -/
theorem op_dyn2 (s : PyData → PyData → Option PyData) : Op2 s eD eD eD (fun a b => ofO (s a b)) := fun a b => by
  show RR (ofO (s a b)) _ (ofO (s a b))
  cases s a b
  · trivial
  · rfl
theorem op_dyn1 {δ : Type} {e : δ → PyData} (s : PyData → Option PyData) : Op1 s eD eD (fun a => ofO (s a)) := fun a => by
  show RR (ofO (s a)) _ (ofO (s a))
  cases s a
  · trivial
  · rfl
theorem t_dynB {L : Pn} {f : Ro → Res PyData} {ra : Res PyData} {r : Res Bool} (hf : TE L f ra eD) (hr : r = ra.bind fun d => ofO (asB d) := by first | rfl | (simp only [Res.bind_ok, Res.assoc, Res.pure]; done)) : TE L (eTb f) r eId := by
  subst hr
  exact fun ρ h => (hf ρ h).bind fun a => by
    show RR (ofO (asB a)) _ (ofO (asB a))
    cases asB a
    · trivial
    · rfl
/-- None or not -/
theorem op_isN {e : α → PyData} [N : NN e] : Op2 isD (eO e) eU eBo (fun a _ => .ok a.isNone) := fun a b => by
  cases a with
  | none => rfl
  | some a => exact .ofOp (by show some (PyData.bool (isNo (e a))) = _; rw [N.nn]; rfl)
theorem op_isnN {e : α → PyData} [N : NN e] : Op2 isnD (eO e) eU eBo (fun a _ => .ok a.isSome) := fun a b => by
  cases a with
  | none => rfl
  | some a => exact .ofOp (by show some (PyData.bool (!isNo (e a))) = _; rw [N.nn]; rfl)
theorem op_isB : Op2 isD eBo eBo eBo (fun a b => .ok (decide (a = b))) := fun a b => rfl
theorem op_isnB : Op2 isnD eBo eBo eBo (fun a b => .ok (!decide (a = b))) := fun a b => rfl

/-! ### lists -/
@[irreducible] def catR (xs ys : List α) : Res (List α) := if xs.length + ys.length ≤ 16777216 then .ok (xs ++ ys) else .bad
theorem op_cat {e : α → PyData} : Op2 addD (eL e) (eL e) (eL e) catR := fun a b => by
  unfold catR; exact RR.iff fun h => by simp [addD, eL, h]
theorem op_catN {e : α → PyData} : Op2 catL (eL e) (eL e) (List.map e) catR := fun a b => by
  unfold catR; exact RR.iff fun h => by simp [catL, eL, h]
@[irreducible] def repR (xs : List α) (k : Int) : Res (List α) := if 0 ≤ k ∧ k.toNat < 16777216 ∧ xs.length * k.toNat ≤ 16777216 then .ok (List.replicate k.toNat xs).flatten else .bad
theorem op_rep {e : α → PyData} : Op2 mulD (eL e) eI (eL e) repR := fun a b => by
  unfold repR; exact RR.iff fun h => by
    have h' : 0 ≤ b ∧ b < 16777216 ∧ a.length * b.toNat ≤ 16777216 := ⟨h.1, by omega, h.2.2⟩
    simp [mulD, eL, h', List.map_flatten]
theorem op_repN {e : α → PyData} : Op2 repL (eL e) eI (List.map e) repR := fun a b => by
  unfold repR; exact RR.iff fun h => by
    have h' : 0 ≤ b ∧ b < 16777216 ∧ a.length * b.toNat ≤ 16777216 := ⟨h.1, by omega, h.2.2⟩
    simp [repL, eL, h', List.map_flatten]
@[irreducible] def atR (xs : List α) (i : Int) : Res α := ofO (atI xs i)
theorem RR.ofM {e : α → β} (o : Option α) : RR (ofO o) e (ofO (o.map e)) := by
  cases o
  · trivial
  · rfl
theorem op_ix {e : α → PyData} : Op2 ixD (eL e) eI e atR := fun a b => by
  unfold atR
  show RR (ofO (atI a b)) e (ofO (atI (a.map e) b))
  rw [atI_map]; exact .ofM _
theorem op_ixT {e : α → PyData} : Op2 ixD (eT e) eI e atR := fun a b => by
  unfold atR
  show RR (ofO (atI a b)) e (ofO (atI (a.map e) b))
  rw [atI_map]; exact .ofM _
theorem op_ixS : Op2 ixD eScr eI eI atR := fun a b => by
  unfold atR
  show RR (ofO (atI a b)) eI (ofO (ixD (scr a) (.int b)))
  rw [ixD_scr]; exact .ofM _
section
variable {L : Pn} {f : Ro → Res PyData} {ε : Type}
theorem t_p0 {e : α → PyData} {e' : β → PyData} {ra : Res (α × β)} {r : Res α} (hf : TE L f ra (eP e e')) (hr : r = ra.bind fun p => .ok p.1 := by first | rfl | (simp only [Res.bind_ok, Res.assoc, Res.pure]; done)) : TE L (e2 ixD f (eC (.int 0))) r e := by
  subst hr; exact fun ρ h => (hf ρ h).bind fun a => rfl
theorem t_p1 {e : α → PyData} {e' : β → PyData} {ra : Res (α × β)} {r : Res β} (hf : TE L f ra (eP e e')) (hr : r = ra.bind fun p => .ok p.2 := by first | rfl | (simp only [Res.bind_ok, Res.assoc, Res.pure]; done)) : TE L (e2 ixD f (eC (.int 1))) r e' := by
  subst hr; exact fun ρ h => (hf ρ h).bind fun a => rfl
theorem t_q0 {e : α → PyData} {e' : β → PyData} {e'' : γ → PyData} {ra : Res (α × β × γ)} {r : Res α} (hf : TE L f ra (eP3 e e' e'')) (hr : r = ra.bind fun p => .ok p.1 := by first | rfl | (simp only [Res.bind_ok, Res.assoc, Res.pure]; done)) : TE L (e2 ixD f (eC (.int 0))) r e := by
  subst hr; exact fun ρ h => (hf ρ h).bind fun a => rfl
theorem t_q1 {e : α → PyData} {e' : β → PyData} {e'' : γ → PyData} {ra : Res (α × β × γ)} {r : Res β} (hf : TE L f ra (eP3 e e' e'')) (hr : r = ra.bind fun p => .ok p.2.1 := by first | rfl | (simp only [Res.bind_ok, Res.assoc, Res.pure]; done)) : TE L (e2 ixD f (eC (.int 1))) r e' := by
  subst hr; exact fun ρ h => (hf ρ h).bind fun a => rfl
theorem t_q2 {e : α → PyData} {e' : β → PyData} {e'' : γ → PyData} {ra : Res (α × β × γ)} {r : Res γ} (hf : TE L f ra (eP3 e e' e'')) (hr : r = ra.bind fun p => .ok p.2.2 := by first | rfl | (simp only [Res.bind_ok, Res.assoc, Res.pure]; done)) : TE L (e2 ixD f (eC (.int 2))) r e'' := by
  subst hr; exact fun ρ h => (hf ρ h).bind fun a => rfl
theorem t_r0 {e : α → PyData} {e' : β → PyData} {e'' : γ → PyData} {e3 : δ → PyData} {ra : Res (α × β × γ × δ)} {r : Res α} (hf : TE L f ra (eP4 e e' e'' e3)) (hr : r = ra.bind fun p => .ok p.1 := by first | rfl | (simp only [Res.bind_ok, Res.assoc, Res.pure]; done)) : TE L (e2 ixD f (eC (.int 0))) r e := by
  subst hr; exact fun ρ h => (hf ρ h).bind fun a => rfl
theorem t_r1 {e : α → PyData} {e' : β → PyData} {e'' : γ → PyData} {e3 : δ → PyData} {ra : Res (α × β × γ × δ)} {r : Res β} (hf : TE L f ra (eP4 e e' e'' e3)) (hr : r = ra.bind fun p => .ok p.2.1 := by first | rfl | (simp only [Res.bind_ok, Res.assoc, Res.pure]; done)) : TE L (e2 ixD f (eC (.int 1))) r e' := by
  subst hr; exact fun ρ h => (hf ρ h).bind fun a => rfl
theorem t_r2 {e : α → PyData} {e' : β → PyData} {e'' : γ → PyData} {e3 : δ → PyData} {ra : Res (α × β × γ × δ)} {r : Res γ} (hf : TE L f ra (eP4 e e' e'' e3)) (hr : r = ra.bind fun p => .ok p.2.2.1 := by first | rfl | (simp only [Res.bind_ok, Res.assoc, Res.pure]; done)) : TE L (e2 ixD f (eC (.int 2))) r e'' := by
  subst hr; exact fun ρ h => (hf ρ h).bind fun a => rfl
theorem t_r3 {e : α → PyData} {e' : β → PyData} {e'' : γ → PyData} {e3 : δ → PyData} {ra : Res (α × β × γ × δ)} {r : Res δ} (hf : TE L f ra (eP4 e e' e'' e3)) (hr : r = ra.bind fun p => .ok p.2.2.2 := by first | rfl | (simp only [Res.bind_ok, Res.assoc, Res.pure]; done)) : TE L (e2 ixD f (eC (.int 3))) r e3 := by
  subst hr; exact fun ρ h => (hf ρ h).bind fun a => rfl
end
/-- slices -/
def cutL (xs : List α) (lo hi : Option Int) : List α := (xs.drop (HT.sIx xs.length 0 lo)).take (HT.sIx xs.length xs.length hi - HT.sIx xs.length 0 lo)
theorem cutD_map {e : α → PyData} (xs : List α) (lo hi : Option Int) : cutD (xs.map e) lo hi = (cutL xs lo hi).map e := by
  unfold cutD cutL
  simp [List.map_take, List.map_drop]
theorem cutL_to (xs : List α) (k : Nat) : cutL xs none (some (k : Int)) = xs.take k := by
  unfold cutL
  rw [HT.sIx_none, HT.sIx_nat]
  simp only [List.drop_zero, Nat.sub_zero]
  by_cases h : k ≤ xs.length
  · rw [Nat.min_eq_left h]
  · rw [Nat.min_eq_right (by omega), List.take_of_length_le (Nat.le_refl _), List.take_of_length_le (by omega)]
theorem cutL_from (xs : List α) (k : Nat) : cutL xs (some (k : Int)) none = xs.drop k := by
  unfold cutL
  rw [HT.sIx_none, HT.sIx_nat]
  by_cases h : k ≤ xs.length
  · rw [Nat.min_eq_left h, List.take_of_length_le (by simp)]
  · rw [Nat.min_eq_right (by omega), List.drop_of_length_le (Nat.le_refl _), List.drop_of_length_le (by omega)]; simp
theorem cutL_all (xs : List α) : cutL xs none none = xs := by
  unfold cutL
  rw [HT.sIx_none, HT.sIx_none]
  simp
@[irreducible] def cutTR (xs : List α) (lo hi : Option Int) : Res (List α) := if HT.sIx xs.length 0 lo = 0 ∧ HT.sIx xs.length xs.length hi = xs.length then .bad else .ok (cutL xs lo hi)
section
variable {L : Pn} {f : Ro → Res PyData} {l u : Ro → Res (Option Int)} {rl ru : Res (Option Int)}
theorem t_none {r : Res (Option Int)} (hr : r = .ok none := by first | rfl | (simp only [Res.bind_ok, Res.assoc, Res.pure]; done)) : TE L eNone r eId := by
  subst hr; exact fun ρ g => rfl
theorem t_asI {ra : Res Int} {r : Res (Option Int)} (hf : TE L f ra eI) (hr : r = ra.bind fun a => .ok (some a) := by first | rfl | (simp only [Res.bind_ok, Res.assoc, Res.pure]; done)) : TE L (e1 asI f) r eId := by
  subst hr; exact fun ρ h => (hf ρ h).bind fun a => rfl
theorem t_slT {e : α → PyData} {ra r : Res (List α)} (hf : TE L f ra (eL e)) (hl : TE L l rl eId) (hu : TE L u ru eId) (hr : r = ra.bind fun a => rl.bind fun i => ru.bind fun j => .ok (cutL a i j) := by first | rfl | (simp only [Res.bind_ok, Res.assoc, Res.pure]; done)) : TE L (eSl slT f l u) r (eL e) := by
  subst hr
  exact fun ρ h => (hf ρ h).bind fun a => (hl ρ h).bind fun i => (hu ρ h).bind fun j => .ofOp (by show some (PyData.list (cutD (a.map e) i j)) = _; rw [cutD_map]; rfl)
theorem t_slL {e : α → PyData} {ra r : Res (List α)} (hf : TE L f ra (eL e)) (hl : TE L l rl eId) (hu : TE L u ru eId) (hr : r = ra.bind fun a => rl.bind fun i => ru.bind fun j => .ok (cutL a i j) := by first | rfl | (simp only [Res.bind_ok, Res.assoc, Res.pure]; done)) : TE L (eSl slL f l u) r (List.map e) := by
  subst hr
  exact fun ρ h => (hf ρ h).bind fun a => (hl ρ h).bind fun i => (hu ρ h).bind fun j => .ofOp (by show some (cutD (a.map e) i j) = _; rw [cutD_map])
theorem t_slTT {e : α → PyData} {ra r : Res (List α)} (hf : TE L f ra (eT e)) (hl : TE L l rl eId) (hu : TE L u ru eId) (hr : r = ra.bind fun a => rl.bind fun i => ru.bind fun j => cutTR a i j := by first | rfl | (simp only [Res.bind_ok, Res.assoc, Res.pure]; done)) : TE L (eSl slT f l u) r (eT e) := by
  subst hr
  refine fun ρ h => (hf ρ h).bind fun a => (hl ρ h).bind fun i => (hu ρ h).bind fun j => ?_
  unfold cutTR
  by_cases c : HT.sIx a.length 0 i = 0 ∧ HT.sIx a.length a.length j = a.length
  · rw [if_pos c]; trivial
  · rw [if_neg c]
    refine .ofOp ?_
    show (if HT.sIx (a.map e).length 0 i = 0 ∧ HT.sIx (a.map e).length (a.map e).length j = (a.map e).length then none else some (PyData.tuple (cutD (a.map e) i j))) = _
    rw [List.length_map, if_neg c, cutD_map]; rfl
end
theorem op_rev {e : α → PyData} : Op1 revL (eL e) (List.map e) (fun xs => .ok xs.reverse) := fun xs => .ofOp (by show some (xs.map e).reverse = _; rw [List.map_reverse])
theorem b_len {e : α → PyData} : B1 lenD (eL e) eI (fun xs => .ok (xs.length : Int)) := fun xs => .ofOp (by show some (PyData.int (xs.map e).length) = _; rw [List.length_map])
theorem b_lenT {e : α → PyData} : B1 lenD (eT e) eI (fun xs => .ok (xs.length : Int)) := fun xs => .ofOp (by show some (PyData.int (xs.map e).length) = _; rw [List.length_map])
theorem b_lenS : B1 lenD eScr eI (fun xs => .ok (xs.length : Int)) := fun xs => .ofOp (lenD_scr xs)
theorem b_sum : B1 sumD (eL eI) eI (fun xs => .ok xs.sum) := fun xs => .ofOp (sumD_ints xs)
theorem b_max : B1 maxD (eL eI) eI (fun xs => ofO (maxL xs)) := fun xs => by
  show RR _ _ (ofO (maxD [.list (xs.map .int)]))
  rw [maxD_ints]; exact .ofM _
theorem b_min : B1 minD (eL eI) eI (fun xs => ofO (minL xs)) := fun xs => by
  show RR _ _ (ofO (minD [.list (xs.map .int)]))
  rw [minD_ints]; exact .ofM _
theorem b_all : B1 allD (eL eBo) eBo (fun xs => .ok (xs.all id)) := fun xs => .ofOp (by show (boolsO (xs.map .bool)).map _ = _; rw [boolsO_map]; rfl)
theorem b_any : B1 anyD (eL eBo) eBo (fun xs => .ok (xs.any id)) := fun xs => .ofOp (by show (boolsO (xs.map .bool)).map _ = _; rw [boolsO_map]; rfl)
theorem b_list {e : α → PyData} : B1 listN (eL e) (List.map e) (fun xs => .ok xs) := fun xs => rfl
theorem b_listT {e : α → PyData} : B1 listN (eT e) (List.map e) (fun xs => .ok xs) := fun xs => rfl
theorem b_tuple {e : α → PyData} : B1 tupleD (eL e) (eT e) (fun xs => .ok xs) := fun xs => rfl
theorem b_sort : B1 sortedN (eL eI) (List.map eI) (fun xs => .ok (sortI xs)) := fun xs => .ofOp (by
  show (intsO (xs.map .int)).map _ = _
  rw [intsO_map]; rfl)
@[irreducible] def ssetR (xs : List Int) : Res (List Int) := if xs.length < 64 then .ok (ssort xs) else .bad
theorem op_sset : Op1 ssetL (eL eI) (List.map eI) ssetR := fun xs => by
  unfold ssetR
  refine RR.iff fun h => ?_
  show (intsO (xs.map .int)).bind _ = _
  rw [intsO_map]; simp [h]
/-! what is walked -/
def rngI (lo : Int) (n : Nat) : List Int := (List.range n).map fun i => lo + (i : Nat)
theorem rngL_map (lo : Int) (n : Nat) : rngL lo n = (rngI lo n).map eI := by simp [rngL, rngI]
@[irreducible] def rngR (n : Int) : Res (List Int) := if -4611686018427387904 ≤ n ∧ n.toNat ≤ 16777216 then .ok (rngI 0 n.toNat) else .bad
@[irreducible] def rng2R (i j : Int) : Res (List Int) := if i.natAbs < 4611686018427387904 ∧ j.natAbs < 4611686018427387904 ∧ (j - i).toNat ≤ 16777216 then .ok (rngI i (j - i).toNat) else .bad
theorem b_rg1 : B1 rg1 eI (List.map eI) rngR := fun n => by
  unfold rngR
  refine RR.iff fun h => ?_
  show (if _ then some _ else none) = _
  rw [if_pos ⟨h.1, by omega⟩, rngL_map]
theorem b_rg2 : B2 rg2 eI eI (List.map eI) rng2R := fun i j => by
  unfold rng2R
  refine RR.iff fun h => ?_
  show (if _ then some _ else none) = _
  rw [if_pos (by omega), rngL_map]
def enumI (xs : List α) : List (Int × α) := xs.zipIdx.map fun p => ((p.2 : Int), p.1)
theorem b_enum {e : α → PyData} : B1 enumL (eL e) (List.map (eP eI e)) (fun xs => .ok (enumI xs)) := fun xs => .ofOp (by
  show some ((xs.map e).zipIdx.map fun p => PyData.tuple [.int (p.2 : Nat), p.1]) = _
  unfold enumI
  rw [List.zipIdx_map, List.map_map, List.map_map]
  rfl)
@[irreducible] def zipR (xs : List α) (ys : List β) : Res (List (α × β)) := if xs.length ≤ 16777216 then .ok (xs.zip ys) else .bad
theorem b_zip {e : α → PyData} {f : β → PyData} : B2 zipL (eL e) (eL f) (List.map (eP e f)) zipR := fun xs ys => by
  unfold zipR
  refine RR.iff fun h => ?_
  show (if (xs.map e).length ≤ 16777216 then some (((xs.map e).zip (ys.map f)).map fun p => PyData.tuple [p.1, p.2]) else none) = _
  rw [List.length_map, if_pos h, List.zip_map, List.map_map]
  rfl
theorem op_it {e : α → PyData} : Op1 itL (eL e) (List.map e) (fun xs => .ok xs) := fun xs => rfl
theorem op_itT {e : α → PyData} : Op1 itL (eT e) (List.map e) (fun xs => .ok xs) := fun xs => rfl

/-! ### targets -/
def TG (g : PyData → Ro → Option Ro) (d : PyData) (L L' : Pn) : Prop := ∀ ρ, Ag L ρ → ∃ ρ1, g d ρ = some ρ1 ∧ Ag L' ρ1
def TGs (g : List PyData → Ro → Option Ro) (ds : List PyData) (L L' : Pn) : Prop := ∀ ρ, Ag L ρ → ∃ ρ1, g ds ρ = some ρ1 ∧ Ag L' ρ1
theorem tg_set {L : Pn} {i : Nat} {d : PyData} : TG (gSet i) d L (L.set i (some (.val d))) := fun ρ h => ⟨_, rfl, h.set i _⟩
theorem tg_nil {L : Pn} : TGs gsNil [] L L := fun ρ h => ⟨_, rfl, h⟩
theorem tg_cons {L L1 L2 : Pn} {g : PyData → Ro → Option Ro} {gs : List PyData → Ro → Option Ro} {d : PyData} {ds : List PyData} (h1 : TG g d L L1) (h2 : TGs gs ds L1 L2) : TGs (gsCons g gs) (d :: ds) L L2 := fun ρ h => by
  obtain ⟨ρ1, e1, a1⟩ := h1 ρ h
  obtain ⟨ρ2, e2, a2⟩ := h2 ρ1 a1
  exact ⟨ρ2, by rw [gsCons_eq, e1]; exact e2, a2⟩
theorem tg_unp {L L' : Pn} {gs : List PyData → Ro → Option Ro} {d : PyData} {ds : List PyData} (hd : d = .tuple ds) (h : TGs gs ds L L') : TG (gUnp gs) d L L' := fun ρ z => by subst hd; exact h ρ z
theorem tg_unpL {L L' : Pn} {gs : List PyData → Ro → Option Ro} {d : PyData} {ds : List PyData} (hd : d = .list ds) (h : TGs gs ds L L') : TG (gUnp gs) d L L' := fun ρ z => by subst hd; exact h ρ z

/-! ### comprehensions -/
def compR (p : α → Res Bool) (f : α → Res β) : List α → Res (List β)
  | [] => .ok []
  | x :: xs => (p x).hush.bind fun b => if b = true then (f x).hush.bind fun y => (compR p f xs).bind fun ys => .ok (y :: ys) else compR p f xs
theorem compR_flat (p : α → Bool) (f : α → β) : ∀ xs : List α, compR (fun x => .ok (p x)) (fun x => .ok (f x)) xs = .ok ((xs.filter p).map f)
  | [] => rfl
  | x :: xs => by
    unfold compR
    rw [compR_flat p f xs]
    cases h : p x <;> simp [h]
theorem compR_all (f : α → β) (xs : List α) : compR (fun _ => .ok true) (fun x => .ok (f x)) xs = .ok (xs.map f) := by
  rw [compR_flat (fun _ => true) f, List.filter_eq_self.mpr fun _ _ => rfl]
theorem compR_ok {p : α → Res Bool} {f : α → Res β} {q : α → Bool} {g : α → β} : ∀ {xs : List α}, (∀ x ∈ xs, p x = .ok (q x)) → (∀ x ∈ xs, q x = true → f x = .ok (g x)) → compR p f xs = .ok ((xs.filter q).map g)
  | [], _, _ => rfl
  | x :: xs, h1, h2 => by
    have ih := compR_ok (xs := xs) (fun y hy => h1 y (List.mem_cons_of_mem _ hy)) fun y hy => h2 y (List.mem_cons_of_mem _ hy)
    unfold compR
    rw [h1 x (List.mem_cons_self ..), ih]
    cases h : q x with
    | false => simp [h]
    | true => rw [h2 x (List.mem_cons_self ..) h]; simp [h]
theorem mapR_ok {f : α → Res β} {g : α → β} {xs : List α} (h : ∀ x ∈ xs, f x = .ok (g x)) : compR (fun _ => .ok true) f xs = .ok (xs.map g) := by
  rw [compR_ok (q := fun _ => true) (fun _ _ => rfl) fun x hx _ => h x hx, List.filter_eq_self.mpr fun _ _ => rfl]
theorem opt_hush {α' : Type} {e : α → α'} {r : Res α} {m : Res α'} (h : RR r e m) : (∃ a, r = .ok a ∧ m = .ok (e a)) ∨ (r.hush = .bad) := by
  cases r with
  | ok a => exact .inl ⟨a, rfl, h⟩
  | exc c k => exact .inr rfl
  | bad => exact .inr rfl
theorem compF_RR {L0 : Pn} {e : α → PyData} {e' : β → PyData} {g : PyData → Ro → Option Ro} {c : Ro → Res Bool} {f : Ro → Res PyData} {Lx : α → Pn} {p : α → Res Bool} {h : α → Res β}
    (hg : ∀ x, TG g (e x) L0 (Lx x)) (hc : ∀ x, TE (Lx x) c (p x) eId) (hf : ∀ x, TE (Lx x) f (h x) e') (ρ : Ro) (a : Ag L0 ρ) : ∀ xs : List α, RR (compR p h xs) (List.map e') (ofO (compF g c f ρ (xs.map e)))
  | [] => rfl
  | x :: xs => by
    have ih := compF_RR hg hc hf ρ a xs
    obtain ⟨ρ1, g1, a1⟩ := hg x ρ a
    unfold compR
    rw [List.map_cons]
    unfold compF
    rw [g1, Option.bind_some]
    have c1 := hc x ρ1 a1
    have f1 := hf x ρ1 a1
    rcases opt_hush c1 with ⟨b, e1, e2⟩ | e1
    · rw [e1, e2]
      simp only [Res.hush_ok, Res.bind_ok, Option.bind_some, Res.opt_ok]
      cases b with
      | false =>
        simp only [Bool.false_eq_true, if_false]
        exact ih
      | true =>
        simp only [if_true]
        rcases opt_hush f1 with ⟨y, e3, e4⟩ | e3
        · rw [e3, e4]
          simp only [Res.hush_ok, Res.bind_ok, Option.bind_some, Res.opt_ok]
          cases hx : compR p h xs with
          | ok ys =>
            rw [hx] at ih
            have ih : ofO (compF g c f ρ (xs.map e)) = .ok (ys.map e') := ih
            cases z : compF g c f ρ (xs.map e) with
            | none => rw [z] at ih; cases ih
            | some ws => rw [z] at ih; cases ih; rfl
          | exc c' k =>
            rw [hx] at ih
            have ih : ofO (compF g c f ρ (xs.map e)) = .exc c' k := ih
            cases z : compF g c f ρ (xs.map e) with
            | none => rw [z] at ih; cases ih
            | some ws => rw [z] at ih; cases ih
          | bad => trivial
        · rw [e3]; trivial
    · rw [e1]; trivial
section
variable {L : Pn} {own own1 : List Nat} {fi fi1 : Ro → Res (List PyData)} {g g1 : PyData → Ro → Option Ro} {c c1 : Ro → Res Bool} {f : Ro → Res PyData} {ε : Type}
theorem t_comp {e : α → PyData} {e' : β → PyData} {rx : Res (List α)} {r : Res (List β)} (Lx : α → Pn) (p : α → Res Bool) (h : α → Res β) (hi : TE L fi rx (List.map e)) (hg : ∀ x, TG g (e x) (wipeP L own) (Lx x)) (hc : ∀ x, TE (Lx x) c (p x) eId) (hf : ∀ x, TE (Lx x) f (h x) e') (hr : r = rx.bind fun xs => compR p h xs := by first | rfl | (simp only [Res.bind_ok, Res.assoc, Res.pure]; done)) : TE L (eComp own fi g c f) r (List.map e') := by
  subst hr
  exact fun ρ a => (hi ρ a).bind fun xs => compF_RR hg hc hf _ (a.wipe own) xs
theorem t_compP {e : α → PyData} {e' : β → PyData} {rx : Res (List α)} {r : Res (List β)} (Lx : α → Pn) (p : α → Bool) (h : α → β) (hi : TE L fi rx (List.map e)) (hg : ∀ x, TG g (e x) (wipeP L own) (Lx x)) (hc : ∀ x, TE (Lx x) c (.ok (p x)) eId) (hf : ∀ x, TE (Lx x) f (.ok (h x)) e') (hr : r = rx.bind fun xs => .ok ((xs.filter p).map h) := by first | rfl | (simp only [Res.bind_ok, Res.assoc, Res.pure]; done)) : TE L (eComp own fi g c f) r (List.map e') := by
  refine t_comp Lx _ _ hi hg hc hf ?_
  subst hr
  congr 1; funext xs; exact (compR_flat p h xs).symm
theorem t_compM {e : α → PyData} {e' : β → PyData} {rx : Res (List α)} {r : Res (List β)} (Lx : α → Pn) (h : α → β) (hi : TE L fi rx (List.map e)) (hg : ∀ x, TG g (e x) (wipeP L own) (Lx x)) (hf : ∀ x, TE (Lx x) f (.ok (h x)) e') (hr : r = rx.bind fun xs => .ok (xs.map h) := by first | rfl | (simp only [Res.bind_ok, Res.assoc, Res.pure]; done)) : TE L (eComp own fi g eTrue f) r (List.map e') := by
  refine t_comp Lx (fun _ => .ok true) _ hi hg (fun _ => t_true) hf ?_
  subst hr
  congr 1; funext xs; exact (compR_all h xs).symm
/-- two turns -/
def comp2R (p : α → Res Bool) (q : α → Res (List ε)) (p1 : α → ε → Res Bool) (f : α → ε → Res β) : List α → Res (List β)
  | [] => .ok []
  | x :: xs => (p x).hush.bind fun b => if b = true then (q x).hush.bind fun es => (compR (p1 x) (f x) es).hush.bind fun ys => (comp2R p q p1 f xs).bind fun zs => .ok (ys ++ zs) else comp2R p q p1 f xs
theorem wipeP_nil (L : Pn) : wipeP L [] = L := rfl
theorem RR.hushO {α' : Type} {e : α → α'} {r : Res α} {o : Option α'} (h : RR r e (ofO o)) : (∃ a, r = .ok a ∧ o = some (e a)) ∨ r = .bad := by
  cases r with
  | ok a =>
    have h : ofO o = .ok (e a) := h
    cases o with
    | none => cases h
    | some b => cases h; exact .inl ⟨a, rfl, rfl⟩
  | exc c k =>
    have h : ofO o = .exc c k := h
    cases o <;> cases h
  | bad => exact .inr rfl
theorem compF2_RR {L0 : Pn} {e : α → PyData} {e1 : ε → PyData} {e' : β → PyData} {Lx : α → Pn} {Ly : α → ε → Pn} {p : α → Res Bool} {q : α → Res (List ε)} {p1 : α → ε → Res Bool} {h : α → ε → Res β}
    (hg : ∀ x, TG g (e x) L0 (Lx x)) (hc : ∀ x, TE (Lx x) c (p x) eId) (hi : ∀ x, TE (Lx x) fi1 (q x) (List.map e1)) (hg1 : ∀ x y, TG g1 (e1 y) (wipeP (Lx x) own1) (Ly x y)) (hc1 : ∀ x y, TE (Ly x y) c1 (p1 x y) eId) (hf : ∀ x y, TE (Ly x y) f (h x y) e') (ρ : Ro) (a : Ag L0 ρ) : ∀ xs : List α, RR (comp2R p q p1 h xs) (List.map e') (ofO (compF2 g c fi1 own1 g1 c1 f ρ (xs.map e)))
  | [] => rfl
  | x :: xs => by
    have ih := compF2_RR hg hc hi hg1 hc1 hf ρ a xs
    obtain ⟨ρ1, g2, a1⟩ := hg x ρ a
    unfold comp2R
    rw [List.map_cons]
    unfold compF2
    rw [g2, Option.bind_some]
    have k1 := hc x ρ1 a1
    have k2 := hi x ρ1 a1
    rcases opt_hush k1 with ⟨b, z1, z2⟩ | z1
    · rw [z1, z2]
      simp only [Res.hush_ok, Res.bind_ok, Option.bind_some, Res.opt_ok]
      cases b with
      | false =>
        simp only [Bool.false_eq_true, if_false]
        exact ih
      | true =>
        simp only [if_true]
        rcases opt_hush k2 with ⟨es, z3, z4⟩ | z3
        · rw [z3, z4]
          simp only [Res.hush_ok, Res.bind_ok, Option.bind_some, Res.opt_ok]
          have k3 := compF_RR (hg1 x) (hc1 x) (hf x) _ (a1.wipe own1) es
          rcases k3.hushO with ⟨ys, z5, z6⟩ | z5
          · rw [z5, z6]
            simp only [Res.hush_ok, Res.bind_ok, Option.bind_some]
            rcases ih.hushO with ⟨zs, z7, z8⟩ | z7
            · rw [z7, z8]
              show Res.ok _ = Res.ok _
              simp
            · rw [z7]; trivial
          · rw [z5]; trivial
        · rw [z3]; trivial
    · rw [z1]; trivial
theorem t_comp2 {e : α → PyData} {e1 : ε → PyData} {e' : β → PyData} {rx : Res (List α)} {r : Res (List β)} (Lx : α → Pn) (Ly : α → ε → Pn) (p : α → Res Bool) (q : α → Res (List ε)) (p1 : α → ε → Res Bool) (h : α → ε → Res β) (hi0 : TE L fi rx (List.map e))
    (hg : ∀ x, TG g (e x) (wipeP L own) (Lx x)) (hc : ∀ x, TE (Lx x) c (p x) eId) (hi : ∀ x, TE (Lx x) fi1 (q x) (List.map e1)) (hg1 : ∀ x y, TG g1 (e1 y) (wipeP (Lx x) own1) (Ly x y)) (hc1 : ∀ x y, TE (Ly x y) c1 (p1 x y) eId) (hf : ∀ x y, TE (Ly x y) f (h x y) e') (hr : r = rx.bind fun xs => (comp2R p q p1 h xs).bind lenR := by first | rfl | (simp only [Res.bind_ok, Res.assoc, Res.pure]; done)) : TE L (eComp2 own fi g c fi1 own1 g1 c1 f) r (List.map e') := by
  subst hr
  refine fun ρ a => (hi0 ρ a).bind fun xs => ?_
  have := compF2_RR hg hc hi hg1 hc1 hf _ (a.wipe own) xs
  rcases this.hushO with ⟨ys, z1, z2⟩ | z1
  · rw [z1, z2]
    simp only [Res.bind_ok, Option.bind_some]
    unfold lenR lenOk
    rw [List.length_map]
    split <;> first | rfl | trivial
  · rw [z1]; trivial
end
end
end Pf
/-! Ts3: statements by typed functions. -/
namespace Pf
open PySem PySem.Spec PyProof.Rows L2

/-- how a block ends -/
inductive Fl (σ τ : Type) where
  | nx (a : σ)
  | ret (t : τ)
  | bk (a : σ)
def RO {γ : Type} (r : Res γ) (P : γ → Out → Prop) (o : Out) : Prop := match r with
  | .ok c => P c o
  | .exc c k => o = .exc c k
  | .bad => True
def TS {γ : Type} (L : Pn) (s : Ro → Out) (r : Res γ) (P : γ → Out → Prop) : Prop := ∀ ρ, Ag L ρ → RO r P (s ρ)
/-- a def's end -/
def PT {τ : Type} (e : τ → PyData) (t : τ) (o : Out) : Prop := outR o = .ok (e t)
/-- goes on -/
def PN {σ : Type} (E : σ → Pn) (a : σ) (o : Out) : Prop := ∃ ρ, o = .nx ρ ∧ Ag (E a) ρ
/-- goes on, or is left with an answer -/
def PNF {σ τ : Type} (E : σ → Pn) (e : τ → PyData) : Fl σ τ → Out → Prop
  | .nx a, o => ∃ ρ, o = .nx ρ ∧ Ag (E a) ρ
  | .ret t, o => o = .ret (e t)
  | .bk _, _ => False
/-- a turn -/
def PB {σ : Type} (E : σ → Pn) (a : σ) (o : Out) : Prop := ∃ ρ, (o = .nx ρ ∨ o = .ct ρ) ∧ Ag (E a) ρ
def PF {σ τ : Type} (E : σ → Pn) (e : τ → PyData) : Fl σ τ → Out → Prop
  | .nx a, o => ∃ ρ, (o = .nx ρ ∨ o = .ct ρ) ∧ Ag (E a) ρ
  | .ret t, o => o = .ret (e t)
  | .bk a, o => ∃ ρ, o = .bk ρ ∧ Ag (E a) ρ
section
variable {α β γ δ σ τ : Type} {L : Pn} {P : γ → Out → Prop} {rest : Ro → Out} {r : Res γ}
theorem RO.out {β' : Type} {m : Res β'} {ra : Res α} {e : α → β'} {k : α → Res γ} {K : β' → Out} (h : RR ra e m) (hk : ∀ a, RO (k a) P (K (e a))) : RO (ra.bind k) P (m.out K) := by
  cases ra with
  | ok a => have h : m = .ok (e a) := h; subst h; exact hk a
  | exc c k => have h : m = .exc c k := h; subst h; rfl
  | bad => trivial
theorem RO.outSeq {β' : Type} {m : Res β'} {ra : Res α} {e : α → β'} {k : α → Res γ} {K : β' → Out} {rest : Ro → Out} (h : RR ra e m) (hk : ∀ a, RO (k a) P ((K (e a)).seq rest)) : RO (ra.bind k) P ((m.out K).seq rest) := by
  cases ra with
  | ok a => have h : m = .ok (e a) := h; subst h; exact hk a
  | exc c k => have h : m = .exc c k := h; subst h; rfl
  | bad => trivial
theorem s_last {s : Ro → Out} (h : TS L (sSeq s sPass) r P) : TS L s r P := fun ρ a => by
  have := h ρ a
  rw [sSeq_eq] at this
  cases e : s ρ <;> rw [e] at this <;> exact this
theorem s_assoc {s t : Ro → Out} (h : TS L (sSeq s (sSeq t rest)) r P) : TS L (sSeq (sSeq s t) rest) r P := fun ρ a => by
  have := h ρ a
  rw [sSeq_eq] at this
  rw [sSeq_eq, sSeq_eq]
  cases e : s ρ <;> rw [e] at this <;> exact this
theorem s_skip (h : TS L rest r P) : TS L (sSeq sPass rest) r P := h
theorem s_passT {e : γ → PyData} {c : γ} (hc : e c = .none) (hr : r = .ok c := by first | rfl | (simp only [Res.bind_ok, Res.assoc, Res.pure]; done)) : TS L sPass r (PT e) := by
  subst hr; exact fun ρ a => by show outR (.nx ρ) = .ok (e c); rw [hc]; rfl
theorem s_passN {E : γ → Pn} {c : γ} (m : List Bool) (h : mk m L = E c) (hr : r = .ok c := by first | rfl | (simp only [Res.bind_ok, Res.assoc, Res.pure]; done)) : TS L sPass r (PN E) := by
  subst hr; exact fun ρ a => ⟨ρ, rfl, h ▸ a.mk m⟩
theorem s_passB {E : γ → Pn} {c : γ} (m : List Bool) (h : mk m L = E c) (hr : r = .ok c := by first | rfl | (simp only [Res.bind_ok, Res.assoc, Res.pure]; done)) : TS L sPass r (PB E) := by
  subst hr; exact fun ρ a => ⟨ρ, .inl rfl, h ▸ a.mk m⟩
theorem s_ctB {E : γ → Pn} {c : γ} (m : List Bool) (h : mk m L = E c) (hr : r = .ok c := by first | rfl | (simp only [Res.bind_ok, Res.assoc, Res.pure]; done)) : TS L (sSeq (.ct : Ro → Out) rest) r (PB E) := by
  subst hr; exact fun ρ a => ⟨ρ, .inr rfl, h ▸ a.mk m⟩
theorem s_passNF {E : σ → Pn} {e : τ → PyData} {c : σ} {r : Res (Fl σ τ)} (m : List Bool) (h : mk m L = E c) (hr : r = .ok (.nx c) := by first | rfl | (simp only [Res.bind_ok, Res.assoc, Res.pure]; done)) : TS L sPass r (PNF E e) := by
  subst hr; exact fun ρ a => ⟨ρ, rfl, h ▸ a.mk m⟩
theorem s_passF {E : σ → Pn} {e : τ → PyData} {c : σ} {r : Res (Fl σ τ)} (m : List Bool) (h : mk m L = E c) (hr : r = .ok (.nx c) := by first | rfl | (simp only [Res.bind_ok, Res.assoc, Res.pure]; done)) : TS L sPass r (PF E e) := by
  subst hr; exact fun ρ a => ⟨ρ, .inl rfl, h ▸ a.mk m⟩
theorem s_ctF {E : σ → Pn} {e : τ → PyData} {c : σ} {r : Res (Fl σ τ)} (m : List Bool) (h : mk m L = E c) (hr : r = .ok (.nx c) := by first | rfl | (simp only [Res.bind_ok, Res.assoc, Res.pure]; done)) : TS L (sSeq (.ct : Ro → Out) rest) r (PF E e) := by
  subst hr; exact fun ρ a => ⟨ρ, .inr rfl, h ▸ a.mk m⟩
theorem s_bkF {E : σ → Pn} {e : τ → PyData} {c : σ} {r : Res (Fl σ τ)} (m : List Bool) (h : mk m L = E c) (hr : r = .ok (.bk c) := by first | rfl | (simp only [Res.bind_ok, Res.assoc, Res.pure]; done)) : TS L (sSeq (.bk : Ro → Out) rest) r (PF E e) := by
  subst hr; exact fun ρ a => ⟨ρ, rfl, h ▸ a.mk m⟩
theorem s_set {f : Ro → Res PyData} {i : Nat} {e : α → PyData} {ra : Res α} {k : α → Res γ} (hr : r = ra.bind k) (hf : TE L f ra e) (hk : ∀ a, TS (L.set i (some (.val (e a)))) rest (k a) P) : TS L (sSeq (sSet i f) rest) r P := by
  subst hr; exact fun ρ a => RO.outSeq (hf ρ a) fun x => hk x _ (a.set i _)
theorem s_setN {f : Ro → Res (List PyData)} {i : Nat} {e : α → PyData} {ra : Res (List α)} {k : List α → Res γ} (hr : r = ra.bind k) (hf : TE L f ra (List.map e)) (hk : ∀ a, TS (L.set i (some (.own (List.map e a)))) rest (k a) P) : TS L (sSeq (sSetN i f) rest) r P := by
  subst hr; exact fun ρ a => RO.outSeq (hf ρ a) fun x => hk x _ (a.set i _)
theorem s_asg {f : Ro → Res PyData} {g : PyData → Ro → Option Ro} {e : α → PyData} {La : α → Pn} {ra : Res α} {k : α → Res γ} (hr : r = ra.bind k) (hf : TE L f ra e) (hg : ∀ a, TG g (e a) L (La a)) (hk : ∀ a, TS (La a) rest (k a) P) : TS L (sSeq (sAsg g f) rest) r P := by
  subst hr
  refine fun ρ a => RO.outSeq (hf ρ a) fun x => ?_
  obtain ⟨ρ1, e1, a1⟩ := hg x ρ a
  rw [e1]
  exact hk x ρ1 a1
theorem s_expr {f : Ro → Res PyData} {e : α → PyData} {ra : Res α} {k : α → Res γ} (hr : r = ra.bind k) (hf : TE L f ra e) (hk : ∀ a, TS L rest (k a) P) : TS L (sSeq (sExpr f) rest) r P := by
  subst hr; exact fun ρ a => RO.outSeq (hf ρ a) fun x => hk x ρ a
theorem s_ret {f : Ro → Res PyData} {e : γ → PyData} (hf : TE L f r e) : TS L (sSeq (sRet f) rest) r (PT e) := fun ρ a => by
  have := hf ρ a
  show RO r (PT e) (((f ρ).out Out.ret).seq rest)
  cases r with
  | ok c => have q : f ρ = .ok (e c) := this; rw [q]; rfl
  | exc c k => have q : f ρ = .exc c k := this; rw [q]; rfl
  | bad => trivial
theorem s_retNF {f : Ro → Res PyData} {E : σ → Pn} {e : τ → PyData} {ra : Res τ} {r : Res (Fl σ τ)} (hf : TE L f ra e) (hr : r = ra.bind fun t => .ok (.ret t) := by first | rfl | (simp only [Res.bind_ok, Res.assoc, Res.pure]; done)) : TS L (sSeq (sRet f) rest) r (PNF E e) := by
  subst hr; exact fun ρ a => RO.outSeq (hf ρ a) fun x => rfl
theorem s_retF {f : Ro → Res PyData} {E : σ → Pn} {e : τ → PyData} {ra : Res τ} {r : Res (Fl σ τ)} (hf : TE L f ra e) (hr : r = ra.bind fun t => .ok (.ret t) := by first | rfl | (simp only [Res.bind_ok, Res.assoc, Res.pure]; done)) : TS L (sSeq (sRet f) rest) r (PF E e) := by
  subst hr; exact fun ρ a => RO.outSeq (hf ρ a) fun x => rfl
theorem s_retNone {e : γ → PyData} {c : γ} (hc : e c = .none) (hr : r = .ok c := by first | rfl | (simp only [Res.bind_ok, Res.assoc, Res.pure]; done)) : TS L (sSeq sRetN rest) r (PT e) := by
  subst hr; exact fun ρ a => by show outR (.ret .none) = .ok (e c); rw [hc]; rfl
theorem s_raise {f : Ro → Res PyData} {c : Str} {ra : Res Int} (hf : TE L f ra eI) (hr : r = ra.bind fun k => .exc c k := by first | rfl | (simp only [Res.bind_ok, Res.assoc, Res.pure]; done)) : TS L (sSeq (sRaise c f) rest) r P := by
  subst hr; exact fun ρ a => RO.outSeq (hf ρ a) fun x => rfl
theorem s_if {c : Ro → Res Bool} {A B : Ro → Out} {rc : Res Bool} {ra rb : Res γ} (hr : r = rc.bind fun b => if b = true then ra else rb) (hc : TE L c rc eId) (hA : TS L (sSeq A rest) ra P) (hB : TS L (sSeq B rest) rb P) : TS L (sSeq (sIf c A B) rest) r P := by
  subst hr
  refine fun ρ a => RO.outSeq (hc ρ a) fun b => ?_
  cases b
  · exact hB ρ a
  · exact hA ρ a
theorem s_join {s : Ro → Out} {E : σ → Pn} {ra : Res σ} {k : σ → Res γ} (hr : r = ra.bind k) (hs : TS L s ra (PN E)) (hk : ∀ a, TS (E a) rest (k a) P) : TS L (sSeq s rest) r P := by
  subst hr
  intro ρ a
  have := hs ρ a
  rw [sSeq_eq]
  cases ra with
  | ok x => obtain ⟨ρ1, e1, a1⟩ := this; rw [e1]; exact hk x ρ1 a1
  | exc c k => have q : s ρ = .exc c k := this; rw [q]; rfl
  | bad => trivial
/-- what an answer of an inner block is of the outer one -/
def RetOk (P : γ → Out → Prop) (e : τ → PyData) (w : τ → Res γ) : Prop := ∀ t, RO (w t) P (.ret (e t))
theorem retT {e : τ → PyData} : RetOk (PT e) e (fun t => .ok t) := fun t => rfl
theorem retNF {E : σ → Pn} {e : τ → PyData} : RetOk (PNF E e) e (fun t => .ok (.ret t)) := fun t => rfl
theorem retF {E : σ → Pn} {e : τ → PyData} : RetOk (PF E e) e (fun t => .ok (.ret t)) := fun t => rfl
def seqF {σ τ γ : Type} (r : Res (Fl σ τ)) (w : τ → Res γ) (k : σ → Res γ) : Res γ := r.bind fun
  | .nx a => k a
  | .ret t => w t
  | .bk _ => .bad
theorem s_joinF {s : Ro → Out} {E : σ → Pn} {e : τ → PyData} {ra : Res (Fl σ τ)} {w : τ → Res γ} {k : σ → Res γ} (hr : r = seqF ra w k) (hs : TS L s ra (PNF E e)) (hw : RetOk P e w) (hk : ∀ a, TS (E a) rest (k a) P) : TS L (sSeq s rest) r P := by
  subst hr
  intro ρ a
  have := hs ρ a
  rw [sSeq_eq]
  unfold seqF
  cases ra with
  | ok x => cases x with
    | nx x => obtain ⟨ρ1, e1, a1⟩ := this; rw [e1]; exact hk x ρ1 a1
    | ret t => have q : s ρ = .ret (e t) := this; rw [q]; exact hw t
    | bk x => exact this.elim
  | exc c k => have q : s ρ = .exc c k := this; rw [q]; rfl
  | bad => trivial

/-! ### loops -/
def foldR {σ α : Type} (step : σ → α → Res σ) : σ → List α → Res σ
  | a, [] => .ok a
  | a, x :: xs => (step a x).bind fun a' => foldR step a' xs
theorem for_RO {E : σ → Pn} {e : α → PyData} {g : PyData → Ro → Option Ro} {b : Ro → Out} {Lx : σ → α → Pn} {step : σ → α → Res σ} (hg : ∀ a x, TG g (e x) (E a) (Lx a x)) (hb : ∀ a x, TS (Lx a x) b (step a x) (PB E)) : ∀ (xs : List α) (a : σ) (ρ : Ro), Ag (E a) ρ → RO (foldR step a xs) (PN E) (forF g b (xs.map e) ρ)
  | [], a, ρ, h => ⟨ρ, rfl, h⟩
  | x :: xs, a, ρ, h => by
    obtain ⟨ρ1, e1, a1⟩ := hg a x ρ h
    have := hb a x ρ1 a1
    unfold foldR
    rw [List.map_cons]
    unfold forF
    rw [e1, oNx_some, Out.seq_nx]
    cases hs : step a x with
    | ok a' =>
      rw [hs] at this
      obtain ⟨ρ2, e2, a2⟩ := this
      have ih := for_RO hg hb xs a' ρ2 a2
      rcases e2 with e2 | e2 <;> rw [e2] <;> exact ih
    | exc c k =>
      rw [hs] at this
      have q : b ρ1 = .exc c k := this
      rw [q]; rfl
    | bad => trivial
theorem s_for {E : σ → Pn} {e : α → PyData} {fi : Ro → Res (List PyData)} {g : PyData → Ro → Option Ro} {b : Ro → Out} {Lx : σ → α → Pn} {step : σ → α → Res σ} {k : σ → Res γ} {rx : Res (List α)} {a0 : σ} (hr : r = rx.bind fun xs => (foldR step a0 xs).bind k) (m : List Bool) (hi : TE L fi rx (List.map e)) (h0 : mk m L = E a0) (hg : ∀ a x, TG g (e x) (E a) (Lx a x)) (hb : ∀ a x, TS (Lx a x) b (step a x) (PB E)) (hk : ∀ a, TS (E a) rest (k a) P) : TS L (sSeq (sFor fi g b) rest) r P := by
  subst hr
  refine fun ρ a => RO.outSeq (hi ρ a) fun xs => ?_
  have := for_RO hg hb xs a0 ρ (h0 ▸ a.mk m)
  cases hs : foldR step a0 xs with
  | ok x =>
    rw [hs] at this
    obtain ⟨ρ1, e1, a1⟩ := this
    rw [e1]; exact hk x ρ1 a1
  | exc c k =>
    rw [hs] at this
    have q : forF g b (xs.map e) ρ = .exc c k := this
    rw [q]; rfl
  | bad => trivial
def forR {σ τ α : Type} (step : σ → α → Res (Fl σ τ)) : σ → List α → Res (Fl σ τ)
  | a, [] => .ok (.nx a)
  | a, x :: xs => (step a x).bind fun
    | .nx a' => forR step a' xs
    | .ret t => .ok (.ret t)
    | .bk a' => .ok (.nx a')
theorem forF_RO {E : σ → Pn} {e : α → PyData} {eR : τ → PyData} {g : PyData → Ro → Option Ro} {b : Ro → Out} {Lx : σ → α → Pn} {step : σ → α → Res (Fl σ τ)} (hg : ∀ a x, TG g (e x) (E a) (Lx a x)) (hb : ∀ a x, TS (Lx a x) b (step a x) (PF E eR)) : ∀ (xs : List α) (a : σ) (ρ : Ro), Ag (E a) ρ → RO (forR step a xs) (PNF E eR) (forF g b (xs.map e) ρ)
  | [], a, ρ, h => ⟨ρ, rfl, h⟩
  | x :: xs, a, ρ, h => by
    obtain ⟨ρ1, e1, a1⟩ := hg a x ρ h
    have := hb a x ρ1 a1
    unfold forR
    rw [List.map_cons]
    unfold forF
    rw [e1, oNx_some, Out.seq_nx]
    cases hs : step a x with
    | ok a' =>
      rw [hs] at this
      cases a' with
      | nx a' =>
        obtain ⟨ρ2, e2, a2⟩ := this
        have ih := forF_RO hg hb xs a' ρ2 a2
        rcases e2 with e2 | e2 <;> rw [e2] <;> exact ih
      | ret t =>
        have q : b ρ1 = .ret (eR t) := this
        rw [q]; rfl
      | bk a' =>
        obtain ⟨ρ2, e2, a2⟩ := this
        rw [e2]; exact ⟨ρ2, rfl, a2⟩
    | exc c k =>
      rw [hs] at this
      have q : b ρ1 = .exc c k := this
      rw [q]; rfl
    | bad => trivial
theorem s_forF {E : σ → Pn} {e : α → PyData} {eR : τ → PyData} {fi : Ro → Res (List PyData)} {g : PyData → Ro → Option Ro} {b : Ro → Out} {Lx : σ → α → Pn} {step : σ → α → Res (Fl σ τ)} {k : σ → Res γ} {w : τ → Res γ} {rx : Res (List α)} {a0 : σ} (hr : r = rx.bind fun xs => seqF (forR step a0 xs) w k) (m : List Bool) (hi : TE L fi rx (List.map e)) (h0 : mk m L = E a0) (hg : ∀ a x, TG g (e x) (E a) (Lx a x)) (hb : ∀ a x, TS (Lx a x) b (step a x) (PF E eR)) (hw : RetOk P eR w) (hk : ∀ a, TS (E a) rest (k a) P) : TS L (sSeq (sFor fi g b) rest) r P := by
  subst hr
  refine fun ρ a => RO.outSeq (hi ρ a) fun xs => ?_
  have := forF_RO hg hb xs a0 ρ (h0 ▸ a.mk m)
  unfold seqF
  cases hs : forR step a0 xs with
  | ok x =>
    rw [hs] at this
    cases x with
    | nx x => obtain ⟨ρ1, e1, a1⟩ := this; rw [e1]; exact hk x ρ1 a1
    | ret t =>
      have q : forF g b (xs.map e) ρ = .ret (eR t) := this
      rw [q]; exact hw t
    | bk x => exact this.elim
  | exc c k =>
    rw [hs] at this
    have q : forF g b (xs.map e) ρ = .exc c k := this
    rw [q]; rfl
  | bad => trivial
def whileR {σ : Type} (c : σ → Res Bool) (step : σ → Res σ) : Nat → σ → Res σ
  | 0, _ => .bad
  | n + 1, a => (c a).bind fun b => if b = true then (step a).bind fun a' => whileR c step n a' else .ok a
theorem while_RO {E : σ → Pn} {c : Ro → Res Bool} {b : Ro → Out} {rc : σ → Res Bool} {step : σ → Res σ} (hc : ∀ a, TE (E a) c (rc a) eId) (hb : ∀ a, TS (E a) b (step a) (PB E)) : ∀ (n : Nat) (a : σ) (ρ : Ro), Ag (E a) ρ → RO (whileR rc step n a) (PN E) (whF c b n ρ)
  | 0, a, ρ, h => trivial
  | n + 1, a, ρ, h => by
    unfold whileR whF
    refine RO.out (hc a ρ h) fun z => ?_
    cases z with
    | false => exact ⟨ρ, rfl, h⟩
    | true =>
      simp only [if_true]
      have := hb a ρ h
      cases hs : step a with
      | ok a' =>
        rw [hs] at this
        obtain ⟨ρ2, e2, a2⟩ := this
        have ih := while_RO hc hb n a' ρ2 a2
        rcases e2 with e2 | e2 <;> rw [e2] <;> exact ih
      | exc c' k =>
        rw [hs] at this
        have q : b ρ = .exc c' k := this
        rw [q]; rfl
      | bad => trivial
theorem s_while {E : σ → Pn} {c : Ro → Res Bool} {b : Ro → Out} {rc : σ → Res Bool} {step : σ → Res σ} {k : σ → Res γ} {a0 : σ} {n : Nat} (hr : r = (whileR rc step n a0).bind k) (m : List Bool) (h0 : mk m L = E a0) (hc : ∀ a, TE (E a) c (rc a) eId) (hb : ∀ a, TS (E a) b (step a) (PB E)) (hk : ∀ a, TS (E a) rest (k a) P) : TS L (sSeq (sWhile n c b) rest) r P := by
  subst hr
  intro ρ a
  have := while_RO hc hb n a0 ρ (h0 ▸ a.mk m)
  show RO _ _ ((whF c b n ρ).seq rest)
  cases hs : whileR rc step n a0 with
  | ok x =>
    rw [hs] at this
    obtain ⟨ρ1, e1, a1⟩ := this
    rw [e1]; exact hk x ρ1 a1
  | exc c' k =>
    rw [hs] at this
    have q : whF c b n ρ = .exc c' k := this
    rw [q]; rfl
  | bad => trivial
def whileRF {σ τ : Type} (c : σ → Res Bool) (step : σ → Res (Fl σ τ)) : Nat → σ → Res (Fl σ τ)
  | 0, _ => .bad
  | n + 1, a => (c a).bind fun b => if b = true then (step a).bind fun
    | .nx a' => whileRF c step n a'
    | .ret t => .ok (.ret t)
    | .bk a' => .ok (.nx a') else .ok (.nx a)
theorem whileF_RO {E : σ → Pn} {eR : τ → PyData} {c : Ro → Res Bool} {b : Ro → Out} {rc : σ → Res Bool} {step : σ → Res (Fl σ τ)} (hc : ∀ a, TE (E a) c (rc a) eId) (hb : ∀ a, TS (E a) b (step a) (PF E eR)) : ∀ (n : Nat) (a : σ) (ρ : Ro), Ag (E a) ρ → RO (whileRF rc step n a) (PNF E eR) (whF c b n ρ)
  | 0, a, ρ, h => trivial
  | n + 1, a, ρ, h => by
    unfold whileRF whF
    refine RO.out (hc a ρ h) fun z => ?_
    cases z with
    | false => exact ⟨ρ, rfl, h⟩
    | true =>
      simp only [if_true]
      have := hb a ρ h
      cases hs : step a with
      | ok a' =>
        rw [hs] at this
        cases a' with
        | nx a' =>
          obtain ⟨ρ2, e2, a2⟩ := this
          have ih := whileF_RO hc hb n a' ρ2 a2
          rcases e2 with e2 | e2 <;> rw [e2] <;> exact ih
        | ret t => have q : b ρ = .ret (eR t) := this; rw [q]; rfl
        | bk a' => obtain ⟨ρ2, e2, a2⟩ := this; rw [e2]; exact ⟨ρ2, rfl, a2⟩
      | exc c' k =>
        rw [hs] at this
        have q : b ρ = .exc c' k := this
        rw [q]; rfl
      | bad => trivial
theorem s_whileF {E : σ → Pn} {eR : τ → PyData} {c : Ro → Res Bool} {b : Ro → Out} {rc : σ → Res Bool} {step : σ → Res (Fl σ τ)} {k : σ → Res γ} {w : τ → Res γ} {a0 : σ} {n : Nat} (hr : r = seqF (whileRF rc step n a0) w k) (m : List Bool) (h0 : mk m L = E a0) (hc : ∀ a, TE (E a) c (rc a) eId) (hb : ∀ a, TS (E a) b (step a) (PF E eR)) (hw : RetOk P eR w) (hk : ∀ a, TS (E a) rest (k a) P) : TS L (sSeq (sWhile n c b) rest) r P := by
  subst hr
  intro ρ a
  have := whileF_RO hc hb n a0 ρ (h0 ▸ a.mk m)
  show RO _ _ ((whF c b n ρ).seq rest)
  unfold seqF
  cases hs : whileRF rc step n a0 with
  | ok x =>
    rw [hs] at this
    cases x with
    | nx x => obtain ⟨ρ1, e1, a1⟩ := this; rw [e1]; exact hk x ρ1 a1
    | ret t => have q : whF c b n ρ = .ret (eR t) := this; rw [q]; exact hw t
    | bk x => exact this.elim
  | exc c' k =>
    rw [hs] at this
    have q : whF c b n ρ = .exc c' k := this
    rw [q]; rfl
  | bad => trivial

/-! ### own lists -/
@[irreducible] def appR {α : Type} (xs : List α) (x : α) : Res (List α) := if xs.length < 16777216 then .ok (xs ++ [x]) else .bad
theorem s_app {f : Ro → Res PyData} {i : Nat} {e : α → PyData} {xs : List α} {ra : Res α} {k : List α → Res γ} (hr : r = ra.bind fun a => (appR xs a).bind k) (hL : L[i]? = some (some (.own (List.map e xs)))) (hf : TE L f ra e) (hk : ∀ a, TS (L.set i (some (.own (List.map e a)))) rest (k a) P) : TS L (sSeq (sApp i f) rest) r P := by
  subst hr
  intro ρ a
  show RO _ _ ((sApp i f ρ).seq rest)
  rw [sApp_eq f (a.get hL)]
  refine RO.outSeq (hf ρ a) fun x => ?_
  unfold appR
  rw [List.length_map]
  split
  · have := hk (xs ++ [x]) _ (a.set i (.own (List.map e (xs ++ [x]))))
    simpa using this
  · trivial
def putR {α : Type} (xs : List α) (i : Int) (x : α) : Res (List α) := match ixN xs.length i with
  | some j => .ok (xs.set j x)
  | none => .bad
theorem s_put {f fi : Ro → Res PyData} {i : Nat} {e : α → PyData} {xs : List α} {ra : Res α} {ri : Res Int} {k : List α → Res γ} (hr : r = ra.bind fun a => ri.bind fun j => (putR xs j a).bind k) (hL : L[i]? = some (some (.own (List.map e xs)))) (hi : TE L fi ri eI) (hf : TE L f ra e) (hk : ∀ a, TS (L.set i (some (.own (List.map e a)))) rest (k a) P) : TS L (sSeq (sPut i fi f) rest) r P := by
  subst hr
  intro ρ a
  show RO _ _ ((sPut i fi f ρ).seq rest)
  unfold sPut
  rw [a.get hL]
  refine RO.outSeq (hf ρ a) fun x => ?_
  refine RO.outSeq (hi ρ a) fun j => ?_
  unfold putR
  simp only [List.length_map]
  cases ixN xs.length j with
  | none => trivial
  | some n =>
    simp only [Res.bind_ok, Out.seq_nx]
    have := hk (xs.set n x) _ (a.set i (.own (List.map e (xs.set n x))))
    simpa [List.map_set] using this
theorem s_frz0 {s : Ro → Out} (h : TS L (sSeq s rest) r P) : TS L (sSeq (sFrz [] s) rest) r P := h
theorem s_frz1 {i : Nat} {is : List Nat} {s : Ro → Out} {e : α → PyData} {xs : List α} (hL : L[i]? = some (some (.own (List.map e xs)))) (h : TS (L.set i (some (.val (eL e xs)))) (sSeq (sFrz is s) rest) r P) : TS L (sSeq (sFrz (i :: is) s) rest) r P := fun ρ a => by
  have := h _ (a.set i (.val (eL e xs)))
  show RO r P ((s (frz is (frz1 i ρ))).seq rest)
  rw [frz1_own (a.get hL)]
  exact this
theorem s_frz1v {i : Nat} {is : List Nat} {s : Ro → Out} {d : PyData} (hL : L[i]? = some (some (.val d))) (h : TS L (sSeq (sFrz is s) rest) r P) : TS L (sSeq (sFrz (i :: is) s) rest) r P := fun ρ a => by
  have := h _ a
  show RO r P ((s (frz is (frz1 i ρ))).seq rest)
  rw [frz1_val (a.get hL)]
  exact this
/-- several names at once -/
def TM {α : Type} (L : Pn) (f : Ro → Res (List Ent)) (r : Res α) (e : α → List Ent) : Prop := ∀ ρ, Ag L ρ → RR r e (f ρ)
theorem tm_nil {r : Res Unit} (hr : r = .ok () := by first | rfl | (simp only [Res.bind_ok, Res.assoc, Res.pure]; done)) : TM L mNil r (fun _ => []) := by
  subst hr; exact fun ρ _ => rfl
theorem tm_val {f : Ro → Res PyData} {g : Ro → Res (List Ent)} {e : α → PyData} {es : β → List Ent} {ra : Res α} {rb : Res β} {r : Res (α × β)} (hf : TE L f ra e) (hg : TM L g rb es) (hr : r = ra.bind fun a => rb.bind fun b => .ok (a, b) := by first | rfl | (simp only [Res.bind_ok, Res.assoc, Res.pure]; done)) : TM L (mVal f g) r (fun p => .val (e p.1) :: es p.2) := by
  subst hr; exact fun ρ h => (hf ρ h).bind fun a => (hg ρ h).bind fun b => rfl
theorem tm_own {f : Ro → Res (List PyData)} {g : Ro → Res (List Ent)} {e : α → PyData} {es : β → List Ent} {ra : Res (List α)} {rb : Res β} {r : Res (List α × β)} (hf : TE L f ra (List.map e)) (hg : TM L g rb es) (hr : r = ra.bind fun a => rb.bind fun b => .ok (a, b) := by first | rfl | (simp only [Res.bind_ok, Res.assoc, Res.pure]; done)) : TM L (mOwn f g) r (fun p => .own (p.1.map e) :: es p.2) := by
  subst hr; exact fun ρ h => (hf ρ h).bind fun a => (hg ρ h).bind fun b => rfl
def setP (L : Pn) : List Nat → List Ent → Pn
  | i :: is, e :: es => setP (L.set i (some e.sl)) is es
  | _, _ => L
theorem Ag.setE : ∀ (is : List Nat) (es : List Ent) {L : Pn} {ρ : Ro}, Ag L ρ → Ag (setP L is es) (setE ρ is es)
  | i :: is, e :: es, L, ρ, a => by
    show Ag (setP (L.set i (some e.sl)) is es) (Pf.setE (ρ.set i e.sl) is es)
    exact Ag.setE is es (a.set i _)
  | [], es, L, ρ, a => by rw [setE_nil]; exact a
  | _ :: _, [], L, ρ, a => a
theorem s_par {is : List Nat} {f : Ro → Res (List Ent)} {es : α → List Ent} {ra : Res α} {k : α → Res γ} (hr : r = ra.bind k) (hf : TM L f ra es) (hl : ∀ a, (es a).length = is.length) (hk : ∀ a, TS (setP L is (es a)) rest (k a) P) : TS L (sSeq (sParM is f) rest) r P := by
  subst hr
  refine fun ρ a => RO.outSeq (hf ρ a) fun x => ?_
  rw [if_pos (hl x)]
  exact hk x _ (a.setE is (es x))
/-- tries -/
def hdR {τ : Type} : List (Str × (Int → τ)) → Str → Int → Option τ
  | [], _, _ => none
  | (x, h) :: l, c, k => if c = x then some (h k) else hdR l c k
def tryR {σ τ : Type} (cs : List Str) (hs : List (Str × (Int → τ))) (r : Res (Fl σ τ)) : Res (Fl σ τ) := match r with
  | .exc c k => if cs.contains c = true then (match hdR hs c k with
    | some t => .ok (.ret t)
    | none => .exc c k) else .bad
  | o => o
theorem hdl_hdR {e : τ → PyData} (c : Str) (k : Int) : ∀ hs : List (Str × (Int → τ)), hdl (hs.map fun p => (p.1, fun k => e (p.2 k))) c k = match hdR hs c k with
    | some t => .ret (e t)
    | none => .exc c k
  | [] => rfl
  | (x, h) :: l => by
    rw [List.map_cons]
    unfold hdl hdR
    by_cases q : c = x
    · rw [if_pos q, if_pos q]
    · rw [if_neg q, if_neg q]; exact hdl_hdR c k l
theorem s_try {s : Ro → Out} {cs : List Str} {hs : List (Str × (Int → PyData))} {hs' : List (Str × (Int → τ))} {E : σ → Pn} {e : τ → PyData} {ra : Res (Fl σ τ)} {w : τ → Res γ} {k : σ → Res γ} (hr : r = seqF (tryR cs hs' ra) w k) (hh : hs = hs'.map fun p => (p.1, fun k => e (p.2 k))) (h : TS L s ra (PNF E e)) (hw : RetOk P e w) (hk : ∀ a, TS (E a) rest (k a) P) : TS L (sSeq (sTryC cs s hs) rest) r P := by
  subst hr hh
  refine s_joinF (ra := tryR cs hs' ra) rfl (fun ρ a => ?_) hw hk
  have := h ρ a
  unfold sTryC tryR
  cases ra with
  | ok x => cases x with
    | nx x => obtain ⟨ρ1, e1, a1⟩ := this; rw [e1]; exact ⟨ρ1, rfl, a1⟩
    | ret t => have q : s ρ = .ret (e t) := this; rw [q]; rfl
    | bk x => exact this.elim
  | exc c k =>
    have q : s ρ = .exc c k := this
    rw [q]
    simp only
    split
    · rw [hdl_hdR]
      cases hdR hs' c k <;> rfl
    · trivial
  | bad => trivial
theorem RR.dyn (r : Res PyData) : RR r eD r := by cases r <;> first | rfl | trivial
theorem t_i {n : Int} {r : Res Int} (hr : r = .ok n := by first | rfl | (simp only [Res.bind_ok, Res.assoc, Res.pure]; done)) : TE L (eC (.int n)) r eI := by subst hr; exact fun _ _ => rfl
theorem t_bl {n : Bool} {r : Res Bool} (hr : r = .ok n := by first | rfl | (simp only [Res.bind_ok, Res.assoc, Res.pure]; done)) : TE L (eC (.bool n)) r eBo := by subst hr; exact fun _ _ => rfl
theorem t_st {n : Str} {r : Res Str} (hr : r = .ok n := by first | rfl | (simp only [Res.bind_ok, Res.assoc, Res.pure]; done)) : TE L (eC (.str n)) r eS := by subst hr; exact fun _ _ => rfl
theorem t_non {r : Res Unit} (hr : r = .ok () := by first | rfl | (simp only [Res.bind_ok, Res.assoc, Res.pure]; done)) : TE L (eC .none) r eU := by subst hr; exact fun _ _ => rfl
theorem t_nonO {e : α → PyData} {r : Res (Option α)} (hr : r = .ok none := by first | rfl | (simp only [Res.bind_ok, Res.assoc, Res.pure]; done)) : TE L (eC .none) r (eO e) := by subst hr; exact fun _ _ => rfl
end
theorem ag_un : ∀ j : Nat, Ag (List.replicate j none) (List.replicate j .un)
  | 0 => trivial
  | j + 1 => ⟨fun _ e => (nomatch e), ag_un j⟩
theorem ag_args : ∀ (xs : List PyData) (j : Nat), Ag ((xs.map fun x => some (Sl.val x)) ++ List.replicate j none) (xs.map .val ++ List.replicate j .un)
  | [], j => ag_un j
  | x :: xs, j => ⟨fun _ e => by cases e; rfl, ag_args xs j⟩
theorem t_def {γ : Type} {n j : Nat} {g : Ro → Out} {r : Res γ} {e : γ → PyData} {xs : List PyData} {L : Pn} (hn : xs.length = n) (hL : L = (xs.map fun x => some (Sl.val x)) ++ List.replicate j none) (h : TS L g r (PT e)) : RR r e (mDef n j g xs) := by
  have := h _ (hL ▸ ag_args xs j)
  rw [mDef_eq, if_pos hn]
  cases r with
  | ok c => exact this
  | exc c k =>
    have q : g (xs.map .val ++ List.replicate j .un) = .exc c k := this
    rw [q]; rfl
  | bad => trivial
end Pf
/-! Ts4: orders: sorted, max, min of typed data. -/
namespace Pf
open PySem PySem.Spec PyProof.Rows L2
section
variable {α β γ δ : Type}
def ltI (a b : Int) : Bool := decide (a < b)
def ltL [DecidableEq α] (lt : α → α → Bool) : List α → List α → Bool
  | [], [] => false
  | [], _ :: _ => true
  | _ :: _, [] => false
  | x :: xs, y :: ys => if x = y then ltL lt xs ys else lt x y
def ltP [DecidableEq α] (l1 : α → α → Bool) (l2 : β → β → Bool) (p q : α × β) : Bool := if p.1 = q.1 then l2 p.2 q.2 else l1 p.1 q.1
def ltP3 [DecidableEq α] [DecidableEq β] (l1 : α → α → Bool) (l2 : β → β → Bool) (l3 : γ → γ → Bool) (p q : α × β × γ) : Bool := if p.1 = q.1 then (if p.2.1 = q.2.1 then l3 p.2.2 q.2.2 else l2 p.2.1 q.2.1) else l1 p.1 q.1
structure LO (e : α → PyData) (lt : α → α → Bool) : Prop where
  al : ∀ a b, PySem.W.alike (e a) (e b) = true
  ls : ∀ a b, PySem.W.dataLt (e a) (e b) = lt a b
  nn : ∀ a, isNo (e a) = false
  ir : ∀ a, lt a a = false
theorem lo_I : LO eI ltI := ⟨fun _ _ => by simp [PySem.W.alike], fun a b => PySem.W.dataLt_int a b, fun _ => rfl, fun a => by simp [ltI]⟩
theorem ltL_ir [DecidableEq α] {lt : α → α → Bool} : ∀ xs : List α, ltL lt xs xs = false
  | [] => rfl
  | x :: xs => by unfold ltL; rw [if_pos rfl]; exact ltL_ir xs
theorem alikeAll_map {e : α → PyData} (h : ∀ a b, PySem.W.alike (e a) (e b) = true) : ∀ xs ys : List α, PySem.W.alikeAll (xs.map e) (ys.map e) = true
  | [], [] => rfl
  | [], _ :: _ => rfl
  | _ :: _, [] => rfl
  | x :: xs, y :: ys => by simp [PySem.W.alikeAll, h x y, alikeAll_map h xs ys]
theorem lexAll_map [DecidableEq α] {e : α → PyData} {lt : α → α → Bool} {d : Nat} [G : GE e d] (h : LO e lt) : ∀ xs ys : List α, PyProof.Rows.lexLt PyProof.Rows.itemOrd (PySem.W.keyToksAll (xs.map e)) (PySem.W.keyToksAll (ys.map e)) = ltL lt xs ys
  | [], [] => by rw [List.map_nil]; exact PyProof.Rows.lex_irrefl _
  | [], y :: ys => by
    have : PyProof.Rows.itemLt (Sum.inl 0) (Sum.inl 1) = true := by decide
    simp [PySem.W.keyToksAll, ltL, PyProof.Rows.lexLt, this]
  | x :: xs, [] => by
    have h1 : PyProof.Rows.itemLt (Sum.inl 1) (Sum.inl 0) = false := by decide
    have h2 : PyProof.Rows.itemLt (Sum.inl 0) (Sum.inl 1) = true := by decide
    simp [PySem.W.keyToksAll, ltL, PyProof.Rows.lexLt, h1, h2]
  | x :: xs, y :: ys => by
    rw [List.map_cons, List.map_cons, PySem.W.dataLt_cons (h.al x y), GE.eqd, lexAll_map h xs ys, h.ls]
    rw [show ltL lt (x :: xs) (y :: ys) = if x = y then ltL lt xs ys else lt x y from rfl]
    by_cases q : x = y
    · rw [if_pos (by simpa using q), if_pos q]
    · rw [if_neg (by simpa using q), if_neg q]
theorem lo_L [DecidableEq α] {e : α → PyData} {lt : α → α → Bool} {d : Nat} [G : GE e d] (h : LO e lt) : LO (eL e) (ltL lt) := ⟨fun a b => by simp only [eL, PySem.W.alike]; exact alikeAll_map h.al a b, fun a b => by rw [eL, eL, PySem.W.dataLt_list]; exact lexAll_map h a b, fun _ => rfl, ltL_ir⟩
theorem lo_T [DecidableEq α] {e : α → PyData} {lt : α → α → Bool} {d : Nat} [G : GE e d] (h : LO e lt) : LO (eT e) (ltL lt) := ⟨fun a b => by simp only [eT, PySem.W.alike]; exact alikeAll_map h.al a b, fun a b => by rw [eT, eT, PySem.W.dataLt_tuple]; exact lexAll_map h a b, fun _ => rfl, ltL_ir⟩
theorem lo_P [DecidableEq α] [DecidableEq β] {e : α → PyData} {f : β → PyData} {l1 : α → α → Bool} {l2 : β → β → Bool} {d d' : Nat} [GE e d] [GE f d'] (h1 : LO e l1) (h2 : LO f l2) : LO (eP e f) (ltP l1 l2) := ⟨fun a b => by simp [eP, PySem.W.alike, PySem.W.alikeAll, h1.al, h2.al], fun a b => by
  rw [eP, eP, PySem.W.dataLt_pair (h1.al _ _) (h2.al _ _), GE.eqd, GE.eqd, h1.ls, h2.ls]
  unfold ltP
  by_cases q : a.1 = b.1
  · rw [if_pos (by simpa using q), if_pos q]
    by_cases q2 : a.2 = b.2
    · rw [if_pos (by simpa using q2), q2, h2.ir]
    · rw [if_neg (by simpa using q2)]
  · rw [if_neg (by simpa using q), if_neg q], fun _ => rfl, fun a => by unfold ltP; rw [if_pos rfl]; exact h2.ir _⟩
theorem lo_P3 [DecidableEq α] [DecidableEq β] [DecidableEq γ] {e : α → PyData} {f : β → PyData} {g : γ → PyData} {l1 : α → α → Bool} {l2 : β → β → Bool} {l3 : γ → γ → Bool} {d d' d'' : Nat} [GE e d] [GE f d'] [GE g d''] (h1 : LO e l1) (h2 : LO f l2) (h3 : LO g l3) : LO (eP3 e f g) (ltP3 l1 l2 l3) := ⟨fun a b => by simp [eP3, PySem.W.alike, PySem.W.alikeAll, h1.al, h2.al, h3.al], fun a b => by
  rw [eP3, eP3, PySem.W.dataLt_tuple, PySem.W.dataLt_cons (h1.al _ _), PySem.W.dataLt_cons (h2.al _ _), PySem.W.dataLt_cons (h3.al _ _), GE.eqd, GE.eqd, GE.eqd, h1.ls, h2.ls, h3.ls]
  unfold ltP3
  by_cases q : a.1 = b.1
  · rw [if_pos (by simpa using q), if_pos q]
    by_cases q2 : a.2.1 = b.2.1
    · rw [if_pos (by simpa using q2), if_pos q2]
      by_cases q3 : a.2.2 = b.2.2
      · rw [if_pos (by simpa using q3), q3, h3.ir]; exact PyProof.Rows.lex_irrefl _
      · rw [if_neg (by simpa using q3)]
    · rw [if_neg (by simpa using q2), if_neg q2]
  · rw [if_neg (by simpa using q), if_neg q], fun _ => rfl, fun a => by unfold ltP3; rw [if_pos rfl, if_pos rfl]; exact h3.ir _⟩
/-- sorted -/
def sortT (lt : α → α → Bool) (xs : List α) : List α := xs.mergeSort fun a b => !lt b a
@[irreducible] def sortER (e : α → PyData) (lt : α → α → Bool) (xs : List α) : Res (List α) := if ((xs.map e).all isTup1 || (xs.map e).all notTup) = true then .ok (sortT lt xs) else .bad
theorem b_sortT {e : α → PyData} {lt : α → α → Bool} {d : Nat} [GE e d] (h : LO e lt) (hd : d ≤ 64 := by decide) : B1 sortTN (eL e) (List.map e) (sortER e lt) := fun xs => by
  unfold sortER
  refine RR.iff fun hk => ?_
  have hs : okSort (xs.map e) = true := by
    unfold okSort
    rw [hk]
    simp only [List.all_map, Bool.true_and, Bool.and_eq_true, List.all_eq_true, Function.comp_apply]
    exact ⟨fun a _ b _ => h.al a b, fun a _ => GE.sh hd a⟩
  show (if okSort (xs.map e) = true then some (sortD (xs.map e)) else none) = _
  rw [if_pos hs]
  unfold sortD sortT
  rw [List.map_mergeSort (s := fun a b => !PySem.W.dataLt b a)]
  intro a _ b _
  rw [h.ls]
theorem sortER_L {e : α → PyData} {lt : List α → List α → Bool} (xs : List (List α)) : sortER (eL e) lt xs = .ok (sortT lt xs) := by
  unfold sortER
  rw [if_pos]
  rw [Bool.or_eq_true]
  exact .inr (by simp [eL, notTup])
theorem sortER_P {e : α → PyData} {f : β → PyData} {lt : α × β → α × β → Bool} (xs : List (α × β)) : sortER (eP e f) lt xs = .ok (sortT lt xs) := by
  unfold sortER
  rw [if_pos]
  rw [Bool.or_eq_true]
  exact .inl (by simp [eP, isTup1])
theorem sortER_P3 {e : α → PyData} {f : β → PyData} {g : γ → PyData} {lt : α × β × γ → α × β × γ → Bool} (xs : List (α × β × γ)) : sortER (eP3 e f g) lt xs = .ok (sortT lt xs) := by
  unfold sortER
  rw [if_pos]
  rw [Bool.or_eq_true]
  exact .inl (by simp [eP3, isTup1])
/-- max, min -/
def maxT (lt : α → α → Bool) : List α → Option α
  | [] => none
  | x :: xs => some (xs.foldl (fun a y => if lt a y = true then y else a) x)
def minT (lt : α → α → Bool) : List α → Option α
  | [] => none
  | x :: xs => some (xs.foldl (fun a y => if lt y a = true then y else a) x)
@[irreducible] def maxER (e : α → PyData) (lt : α → α → Bool) (xs : List α) : Res α := if xs.length ≤ 16777216 then ofO (maxT lt xs) else .bad
@[irreducible] def minER (e : α → PyData) (lt : α → α → Bool) (xs : List α) : Res α := if xs.length ≤ 16777216 then ofO (minT lt xs) else .bad
theorem okCmp_map {e : α → PyData} {lt : α → α → Bool} {d : Nat} [GE e d] (h : LO e lt) (hd : d ≤ 64) (xs : List α) : okCmp (xs.map e) = true := by
  unfold okCmp
  simp only [List.all_map, List.all_eq_true, Function.comp_apply, Bool.and_eq_true]
  exact fun a _ => ⟨⟨fun b _ => h.al a b, GE.sh hd a⟩, by rw [h.nn]; rfl⟩
theorem fold_map {e : α → PyData} (f : PyData → PyData → Bool) (g : α → α → Bool) (h : ∀ a b, f (e a) (e b) = g a b) : ∀ (xs : List α) (x : α), (xs.map e).foldl (fun a y => if f y a = true then y else a) (e x) = e (xs.foldl (fun a y => if g y a = true then y else a) x)
  | [], x => rfl
  | y :: xs, x => by
    simp only [List.map_cons, List.foldl_cons]
    rw [h]
    by_cases q : g y x = true
    · rw [if_pos q, if_pos q]; exact fold_map f g h xs y
    · rw [if_neg q, if_neg q]; exact fold_map f g h xs x
theorem best_map {e : α → PyData} (f : PyData → PyData → Bool) (g : α → α → Bool) (h : ∀ a b, f (e a) (e b) = g a b) (x : α) (xs : List α) : ((x :: xs).map e)[argBest (fun i j => f (((x :: xs).map e).getD i .none) (((x :: xs).map e).getD j .none)) (((x :: xs).map e).length - 1)]? = some (e (xs.foldl (fun a y => if g y a = true then y else a) x)) := by
  have hb := PySem.W.argBest_fold f .none (e x) (xs.map e) (xs.map e).length (Nat.le_refl _)
  rw [List.take_length, fold_map f g h] at hb
  have hl : ((x :: xs).map e).length - 1 = (xs.map e).length := by simp
  rw [hl, List.map_cons]
  obtain ⟨h1, h2⟩ := hb
  generalize argBest (fun i j => f ((e x :: xs.map e).getD i .none) ((e x :: xs.map e).getD j .none)) (xs.map e).length = n at h1 h2
  have hn : n < (e x :: xs.map e).length := by
    rw [List.length_cons]; omega
  rw [List.getElem?_eq_getElem hn, ← h2, List.getD_eq_getElem?_getD, List.getElem?_eq_getElem hn]
  rfl
theorem b_maxT {e : α → PyData} {lt : α → α → Bool} {d : Nat} [GE e d] (h : LO e lt) (hd : d ≤ 64 := by decide) : B1 maxTD (eL e) e (maxER e lt) := fun xs => by
  unfold maxER
  by_cases hl : xs.length ≤ 16777216
  · rw [if_pos hl]
    cases xs with
    | nil => trivial
    | cons x xs =>
      refine RR.ofOp ?_
      show (if okCmp ((x :: xs).map e) = true ∧ ((x :: xs).map e).length ≤ 16777216 then _ else none) = _
      rw [if_pos ⟨okCmp_map h hd _, by rw [List.length_map]; exact hl⟩]
      exact best_map (fun a b => PySem.W.dataLt b a) (fun a b => lt b a) (fun a b => h.ls b a) x xs
  · rw [if_neg hl]; trivial
theorem b_minT {e : α → PyData} {lt : α → α → Bool} {d : Nat} [GE e d] (h : LO e lt) (hd : d ≤ 64 := by decide) : B1 minTD (eL e) e (minER e lt) := fun xs => by
  unfold minER
  by_cases hl : xs.length ≤ 16777216
  · rw [if_pos hl]
    cases xs with
    | nil => trivial
    | cons x xs =>
      refine RR.ofOp ?_
      show (if okCmp ((x :: xs).map e) = true ∧ ((x :: xs).map e).length ≤ 16777216 then _ else none) = _
      rw [if_pos ⟨okCmp_map h hd _, by rw [List.length_map]; exact hl⟩]
      exact best_map (fun a b => PySem.W.dataLt a b) (fun a b => lt a b) (fun a b => h.ls a b) x xs
  · rw [if_neg hl]; trivial
end
end Pf
/-! Ts5: typed: sums of lists, values by or, list(range). -/
namespace Pf
open PySem PySem.Spec PyProof.Rows L2
section
variable {α β γ δ : Type} {L : Pn}
/-! steps that change nothing -/
theorem t_itL {e : α → PyData} {f : Ro → Res PyData} {r : Res (List α)} (hf : TE L f r (eL e)) : TE L (e1 itL f) r (List.map e) := fun ρ h => by
  have := (hf ρ h).bindO (k := fun x => .ok x) (k' := itL) (e' := List.map e) fun _ => rfl
  rw [Res.pure] at this; exact this
theorem t_itT {e : α → PyData} {f : Ro → Res PyData} {r : Res (List α)} (hf : TE L f r (eT e)) : TE L (e1 itL f) r (List.map e) := fun ρ h => by
  have := (hf ρ h).bindO (k := fun x => .ok x) (k' := itL) (e' := List.map e) fun _ => rfl
  rw [Res.pure] at this; exact this
theorem t_listL {e : α → PyData} {f : Ro → Res PyData} {r : Res (List α)} (hf : TE L f r (eL e)) : TE L (e1 listN (eCons f eNil)) r (List.map e) := t_b1 (b_list (e := e)) hf (by rw [Res.pure])
theorem t_listT {e : α → PyData} {f : Ro → Res PyData} {r : Res (List α)} (hf : TE L f r (eT e)) : TE L (e1 listN (eCons f eNil)) r (List.map e) := t_b1 (b_listT (e := e)) hf (by rw [Res.pure])
theorem t_tupleL {e : α → PyData} {f : Ro → Res PyData} {r : Res (List α)} (hf : TE L f r (eL e)) : TE L (e1 tupleD (eCons f eNil)) r (eT e) := t_b1 (b_tuple (e := e)) hf (by rw [Res.pure])
theorem t_intI {f : Ro → Res PyData} {r : Res Int} (hf : TE L f r eI) : TE L (e1 intD (eCons f eNil)) r eI := t_b1 b_int hf (by rw [Res.pure])
@[irreducible] def sumLR (xss : List (List α)) (ys : List α) : Res (List α) := if ys.length + (xss.map List.length).sum ≤ 16777216 then .ok (ys ++ xss.flatten) else .bad
theorem listsO_map {e : α → PyData} : ∀ xss : List (List α), listsO (xss.map (eL e)) = some (xss.map (List.map e))
  | [] => rfl
  | xs :: xss => by
    show (listsO (xss.map (eL e))).map (xs.map e :: ·) = _
    rw [listsO_map xss]; rfl
theorem b_sumL {e : α → PyData} : B2 sumLD (eL (eL e)) (eL e) (eL e) sumLR := fun xss ys => by
  unfold sumLR
  refine RR.iff fun h => ?_
  show (listsO (xss.map (eL e))).bind _ = _
  rw [listsO_map]
  have h1 : ((xss.map (List.map e)).map List.length) = xss.map List.length := by simp [Function.comp_def]
  simp only [Option.bind_some, List.length_map, h1]
  rw [if_pos h]
  simp [eL, List.map_flatten]
theorem op_lrg : Op1 lrg1 eI (List.map eI) rngR := fun n => by
  unfold rngR
  refine RR.iff fun h => ?_
  show (if _ then some _ else none) = _
  rw [if_pos ⟨h.1, by omega⟩, rngL_map]
theorem t_someL {f : Ro → Res PyData} {e : α → PyData} {ra : Res (List α)} {r : Res (List (Option α))} (hf : TE L f ra (eL e)) (hr : r = ra.bind fun a => .ok (a.map some) := by first | rfl | (simp only [Res.bind_ok, Res.assoc, Res.pure]; done)) : TE L f r (eL (eO e)) := by
  subst hr
  intro ρ g
  have := hf ρ g
  cases ra with
  | ok xs =>
    have q : f ρ = .ok (eL e xs) := this
    show f ρ = .ok (eL (eO e) (xs.map some))
    rw [q]
    simp [eL, eO, Function.comp_def]
  | exc c k => exact this
  | bad => trivial
def orOL (o : Option (List α)) (r : Res (List α)) : Res (List α) := match o with
  | some (x :: xs) => .ok (x :: xs)
  | _ => r
def orOI (o : Option Int) (r : Res Int) : Res Int := match o with
  | some i => if i ≠ 0 then .ok i else r
  | none => r
def orLL (o : List α) (r : Res (List α)) : Res (List α) := match o with
  | x :: xs => .ok (x :: xs)
  | [] => r
theorem t_orOL {f g : Ro → Res PyData} {e : α → PyData} {ra : Res (Option (List α))} {rb r : Res (List α)} (hf : TE L f ra (eO (eL e))) (hg : TE L g rb (eL e)) (hr : r = ra.bind fun a => orOL a rb := by first | rfl | (simp only [Res.bind_ok, Res.assoc, Res.pure]; done)) : TE L (eOrV f g) r (eL e) := by
  subst hr
  refine fun ρ h => (hf ρ h).bind fun a => ?_
  cases a with
  | none => exact hg ρ h
  | some xs => cases xs with
    | nil => exact hg ρ h
    | cons x xs => rfl
theorem t_orLL {f g : Ro → Res PyData} {e : α → PyData} {ra : Res (List α)} {rb r : Res (List α)} (hf : TE L f ra (eL e)) (hg : TE L g rb (eL e)) (hr : r = ra.bind fun a => orLL a rb := by first | rfl | (simp only [Res.bind_ok, Res.assoc, Res.pure]; done)) : TE L (eOrV f g) r (eL e) := by
  subst hr
  refine fun ρ h => (hf ρ h).bind fun a => ?_
  cases a with
  | nil => exact hg ρ h
  | cons x xs => rfl
theorem t_orOI {f g : Ro → Res PyData} {ra : Res (Option Int)} {rb r : Res Int} (hf : TE L f ra (eO eI)) (hg : TE L g rb eI) (hr : r = ra.bind fun a => orOI a rb := by first | rfl | (simp only [Res.bind_ok, Res.assoc, Res.pure]; done)) : TE L (eOrV f g) r eI := by
  subst hr
  refine fun ρ h => (hf ρ h).bind fun a => ?_
  cases a with
  | none => exact hg ρ h
  | some i =>
    show RR (if i ≠ 0 then .ok i else rb) eI ((ofO (some (i != 0))).bind fun k => if k = true then .ok (eI i) else g ρ)
    by_cases q : i = 0
    · subst q
      simp only [ne_eq, not_true_eq_false, if_false, ofO_some, Res.bind_ok]
      exact hg ρ h
    · have : (i != 0) = true := by simp [q]
      rw [if_pos q, this]; rfl
end
theorem t_defM {γ : Type} {n j : Nat} {g : Ro → Out} {m : List PyData → Res PyData} {r : Res γ} {e : γ → PyData} {xs : List PyData} {L : Pn} (hm : m = mDef n j g) (hn : xs.length = n) (hL : L = (xs.map fun x => some (Sl.val x)) ++ List.replicate j none) (h : TS L g r (PT e)) : RR r e (m xs) := by
  subst hm
  exact t_def hn hL h
end Pf
/-! TyC: the laws' shared helpers, typed. -/
namespace TyC
open PySem PySem.Spec PyProof.Rows L2 Pf LawC
abbrev eF : Int × Int → PyData := eP eI eI
theorem eF_eq (p : Int × Int) : eF p = frD p := rfl
def drawsF (ns : List Int) : List Int := match m__law_draws [scr ns] with
  | .ok (.list ds) => (intsO ds).getD []
  | _ => []
def s__law_draws (ns : List Int) : Res (List Int) := if ns.length ≤ 63 then .ok (drawsF ns) else .bad
theorem drawsF_ok (ns : List Int) (h : ns.length ≤ 63) : m__law_draws [scr ns] = .ok (intsD (drawsF ns)) ∧ Dr (drawsF ns) := by
  obtain ⟨ds, h1, h2⟩ := draws_ok ns h
  have : drawsF ns = ds := by
    unfold drawsF
    rw [h1]
    show (intsO (ds.map .int)).getD [] = ds
    rw [intsO_map]; rfl
  rw [this]; exact ⟨h1, h2⟩
theorem t__law_draws (ns : List Int) : RR (s__law_draws ns) (eL eI) (LawC.m__law_draws [eScr ns]) := by
  unfold s__law_draws
  by_cases h : ns.length ≤ 63
  · rw [if_pos h]; exact (drawsF_ok ns h).1
  · rw [if_neg h]; trivial
def s__law_mix (ds : List Int) (k many : Int) : Res Int := if 0 ≤ k ∧ k < 1000000 ∧ 0 < many ∧ (∀ x ∈ ds, 0 ≤ x ∧ x < 65536) then .ok (mixF ds k many) else .bad
theorem t__law_mix (ds : List Int) (k many : Int) : RR (s__law_mix ds k many) eI (LawC.m__law_mix [eL eI ds, eI k, eI many]) := by
  unfold s__law_mix
  split
  · rename_i h; exact (mixF_ok h.1 h.2.1 h.2.2.1 h.2.2.2).1
  · trivial
def s__law_common (a b : Int) : Res Int := if b.natAbs < 2 ^ 200 then .ok (max 1 (Int.gcd a b)) else .bad
theorem t__law_common (a b : Int) : RR (s__law_common a b) eI (LawC.m__law_common [eI a, eI b]) := by
  unfold s__law_common
  split
  · rename_i h; exact lcommon_ok a b h
  · trivial
def s_common (a b : Int) : Res Int := if b.natAbs < 2 ^ 200 then .ok (Int.gcd a b) else .bad
theorem t_common (a b : Int) : RR (s_common a b) eI (LawC.m_common [eI a, eI b]) := by
  unfold s_common
  split
  · rename_i h; exact common_ok a b h
  · trivial
def s__law_low (n d : Int) : Res (Int × Int) := if 0 < d ∧ d < 2 ^ 200 then .ok (low n d) else .bad
theorem t__law_low (n d : Int) : RR (s__law_low n d) eF (LawC.m__law_low [eI n, eI d]) := by
  unfold s__law_low
  split
  · rename_i h; exact llow_ok n d h.1 h.2
  · trivial
def s_plain (n d : Int) : Res (Int × Int) := if 0 < d ∧ d < 2 ^ 200 then .ok (low n d) else .bad
theorem t_plain (n d : Int) : RR (s_plain n d) eF (LawC.m_plain [eI n, eI d]) := by
  unfold s_plain
  split
  · rename_i h; exact plain_ok n d h.1 h.2
  · trivial
def s__law_add (p q : Int × Int) : Res (Int × Int) := if okMul p.1 q.2 = true ∧ okMul q.1 p.2 = true ∧ okMul p.2 q.2 = true ∧ 0 < p.2 * q.2 ∧ p.2 * q.2 < 2 ^ 200 then .ok (low (p.1 * q.2 + q.1 * p.2) (p.2 * q.2)) else .bad
theorem t__law_add (p q : Int × Int) : RR (s__law_add p q) eF (LawC.m__law_add [eF p, eF q]) := by
  unfold s__law_add
  split
  · rename_i h; exact ladd_ok p q h.1 h.2.1 h.2.2.1 h.2.2.2.1 h.2.2.2.2
  · trivial
def s__law_times (p q : Int × Int) : Res (Int × Int) := if okMul p.1 q.1 = true ∧ okMul p.2 q.2 = true ∧ 0 < p.2 * q.2 ∧ p.2 * q.2 < 2 ^ 200 then .ok (low (p.1 * q.1) (p.2 * q.2)) else .bad
theorem t__law_times (p q : Int × Int) : RR (s__law_times p q) eF (LawC.m__law_times [eF p, eF q]) := by
  unfold s__law_times
  split
  · rename_i h; exact ltimes_ok p q h.1 h.2.1 h.2.2.1 h.2.2.2
  · trivial
def s__law_sum (ps : List (Int × Int)) : Res (Int × Int) := foldR s__law_add (0, 1) ps
end TyC
/-! TyP: what typed functions reckon. -/
namespace Pf
open PySem PySem.Spec PyProof.Rows L2 LawC
section
variable {α β γ σ τ : Type}
@[simp] theorem seqF_nx (a : σ) (w : τ → Res γ) (k : σ → Res γ) : seqF (.ok (.nx a)) w k = k a := rfl
@[simp] theorem seqF_ret (t : τ) (w : τ → Res γ) (k : σ → Res γ) : seqF (.ok (.ret t)) w k = w t := rfl
@[simp] theorem foldR_nil (step : σ → α → Res σ) (a : σ) : foldR step a [] = .ok a := rfl
@[simp] theorem foldR_cons (step : σ → α → Res σ) (a : σ) (x : α) (xs : List α) : foldR step a (x :: xs) = (step a x).bind fun a' => foldR step a' xs := rfl
@[simp] theorem forR_nil (step : σ → α → Res (Fl σ τ)) (a : σ) : forR step a [] = .ok (.nx a) := rfl
theorem forR_cons_nx {step : σ → α → Res (Fl σ τ)} {a a' : σ} {x : α} {xs : List α} (h : step a x = .ok (.nx a')) : forR step a (x :: xs) = forR step a' xs := by
  rw [forR, h]; rfl
theorem forR_inv {step : σ → α → Res (Fl σ τ)} (I : List α → σ → Prop) : ∀ (xs : List α) (a : σ), I xs a → (∀ x ys a, x ∈ xs → I (x :: ys) a → ∃ a', step a x = .ok (.nx a') ∧ I ys a') → ∃ a', forR step a xs = .ok (.nx a') ∧ I [] a'
  | [], a, h, _ => ⟨a, rfl, h⟩
  | x :: xs, a, h, hs => by
    obtain ⟨a', e, h'⟩ := hs x xs a (List.mem_cons_self ..) h
    obtain ⟨b, e2, h2⟩ := forR_inv I xs a' h' fun y ys a hy => hs y ys a (List.mem_cons_of_mem _ hy)
    exact ⟨b, by rw [forR_cons_nx e]; exact e2, h2⟩
theorem forR_all {step : Unit → α → Res (Fl Unit τ)} {xs : List α} (h : ∀ x ∈ xs, step () x = .ok (.nx ())) : forR step () xs = .ok (.nx ()) := by
  induction xs with
  | nil => rfl
  | cons x xs ih => rw [forR_cons_nx (h x (List.mem_cons_self ..))]; exact ih fun y hy => h y (List.mem_cons_of_mem _ hy)
theorem foldR_inv {step : σ → α → Res σ} (I : List α → σ → Prop) : ∀ (xs : List α) (a : σ), I xs a → (∀ x ys a, x ∈ xs → I (x :: ys) a → ∃ a', step a x = .ok a' ∧ I ys a') → ∃ a', foldR step a xs = .ok a' ∧ I [] a'
  | [], a, h, _ => ⟨a, rfl, h⟩
  | x :: xs, a, h, hs => by
    obtain ⟨a', e, h'⟩ := hs x xs a (List.mem_cons_self ..) h
    obtain ⟨b, e2, h2⟩ := foldR_inv I xs a' h' fun y ys a hy => hs y ys a (List.mem_cons_of_mem _ hy)
    exact ⟨b, by rw [foldR_cons, e]; exact e2, h2⟩
/-- a loop as a plain fold -/
theorem foldR_eq {step : σ → α → Res σ} {f : σ → α → σ} (I : σ → Prop) : ∀ (xs : List α) (a : σ), I a → (∀ x a, x ∈ xs → I a → step a x = .ok (f a x) ∧ I (f a x)) → foldR step a xs = .ok (xs.foldl f a) ∧ I (xs.foldl f a)
  | [], a, h, _ => ⟨rfl, h⟩
  | x :: xs, a, h, hs => by
    obtain ⟨e, h'⟩ := hs x a (List.mem_cons_self ..) h
    have := foldR_eq I xs (f a x) h' fun y a hy => hs y a (List.mem_cons_of_mem _ hy)
    exact ⟨by rw [foldR_cons, e]; exact this.1, this.2⟩
theorem foldR_all {step : Unit → α → Res Unit} {xs : List α} (h : ∀ x ∈ xs, step () x = .ok ()) : foldR step () xs = .ok () := by
  induction xs with
  | nil => rfl
  | cons x xs ih => rw [foldR_cons, h x (List.mem_cons_self ..)]; exact ih fun y hy => h y (List.mem_cons_of_mem _ hy)
theorem rngR_ok {n : Int} (h : n ≤ 16777216) (h0 : -4611686018427387904 ≤ n := by omega) : rngR n = .ok (rngI 0 n.toNat) := by
  unfold rngR; rw [if_pos ⟨h0, by omega⟩]
theorem rngR_nat {n : Nat} (h : n ≤ 16777216) : rngR (n : Int) = .ok ((List.range n).map fun i => ((i : Nat) : Int)) := by
  rw [rngR_ok (by omega)]; simp [rngI]
theorem mem_rngI {lo : Int} {n : Nat} {x : Int} : x ∈ rngI lo n ↔ lo ≤ x ∧ x < lo + n := by
  unfold rngI
  simp only [List.mem_map, List.mem_range]
  constructor
  · rintro ⟨i, h, rfl⟩; omega
  · intro h; exact ⟨(x - lo).toNat, by omega, by omega⟩
theorem rng2R_ok {i j : Int} (h1 : -4611686018427387904 < i) (h2 : i < 4611686018427387904) (h3 : -4611686018427387904 < j) (h4 : j < 4611686018427387904) (h5 : j - i ≤ 16777216) : rng2R i j = .ok (rngI i (j - i).toNat) := by
  unfold rng2R; rw [if_pos ⟨by omega, by omega, by omega⟩]
theorem mulR_ok {a b : Int} (h : okMul a b = true) : mulR a b = .ok (a * b) := by unfold mulR; rw [if_pos h]
theorem mulR_sm {a b : Int} (ha : a.natAbs < 2 ^ 1000) (hb : b.natAbs < 2 ^ 1000) : mulR a b = .ok (a * b) := mulR_ok (okMul_of ha hb)
/-- below 2^60 both -/
theorem mulR_60 {a b : Int} (ha : -1152921504606846976 < a ∧ a < 1152921504606846976) (hb : -1152921504606846976 < b ∧ b < 1152921504606846976) : mulR a b = .ok (a * b) := mulR_ok (okMul_of (k := 60) (l := 60) (by omega) (by omega))
theorem catR_ok {xs ys : List α} (h : xs.length + ys.length ≤ 16777216) : catR xs ys = .ok (xs ++ ys) := by unfold catR; rw [if_pos h]
theorem lenR_ok {xs : List α} (h : xs.length ≤ 16777216) : lenR xs = .ok xs := by unfold lenR; rw [if_pos h]
theorem appR_ok {xs : List α} {x : α} (h : xs.length < 16777216) : appR xs x = .ok (xs ++ [x]) := by unfold appR; rw [if_pos h]
theorem atR_nat {xs : List α} {k : Nat} (h : k < xs.length) : atR xs (k : Int) = .ok xs[k] := by
  unfold atR; rw [Pf.atI_nat, List.getElem?_eq_getElem h]; rfl
theorem atR_D {xs : List α} {k : Nat} (d : α) (h : k < xs.length) : atR xs (k : Int) = .ok (xs.getD k d) := by
  rw [atR_nat h, List.getD_eq_getElem?_getD, List.getElem?_eq_getElem h]; rfl
theorem atR_int {xs : List α} {i : Int} (h0 : 0 ≤ i) (h : i < xs.length) (d : α) : atR xs i = .ok (xs.getD i.toNat d) := by
  obtain ⟨k, rfl⟩ : ∃ k : Nat, i = k := ⟨i.toNat, by omega⟩
  rw [atR_D d (by omega)]; rfl
theorem atR_mem {xs : List α} {i : Int} (h0 : 0 ≤ i) (h : i < xs.length) : ∃ x, atR xs i = .ok x ∧ x ∈ xs := by
  obtain ⟨k, rfl⟩ : ∃ k : Nat, i = k := ⟨i.toNat, by omega⟩
  exact ⟨_, atR_nat (by omega), List.getElem_mem _⟩
theorem atR_last {xs : List α} (h : 0 < xs.length) : atR xs (-1) = .ok (xs[xs.length - 1]'(by omega)) := by
  unfold atR atI ixN
  rw [if_neg (by omega), if_pos (by omega)]
  have : (-1 + (xs.length : Int)).toNat = xs.length - 1 := by omega
  simp only [Option.bind_some, this]
  rw [List.getElem?_eq_getElem (by omega)]; rfl
theorem zipR_ok {xs : List α} {ys : List β} (h : xs.length ≤ 16777216) : zipR xs ys = .ok (xs.zip ys) := by unfold zipR; rw [if_pos h]
theorem repR_ok {xs : List α} {k : Nat} (h : k < 16777216) (h2 : xs.length * k ≤ 16777216) : repR xs (k : Int) = .ok (List.replicate k xs).flatten := by
  unfold repR; rw [if_pos ⟨by omega, by omega, by simpa using h2⟩]; simp
theorem repR_1 {x : α} {k : Nat} (h : k < 16777216) : repR [x] (k : Int) = .ok (List.replicate k x) := by
  rw [repR_ok h (by simp; omega)]
  congr 1
  induction k with
  | zero => rfl
  | succ k ih => rw [List.replicate_succ, List.flatten_cons, ih (by omega), List.replicate_succ]; rfl
end
theorem mixR_ok {ds : List Int} (h : Dr ds) {k many : Int} (hk : 0 ≤ k) (hk2 : k < 1000000) (hm : 0 < many) : TyC.s__law_mix ds k many = .ok (mixF ds k many) ∧ 0 ≤ mixF ds k many ∧ mixF ds k many < many := by
  unfold TyC.s__law_mix
  rw [if_pos ⟨hk, hk2, hm, h.2⟩]
  exact ⟨rfl, (mixF_ok hk hk2 hm h.2).2⟩
theorem drawsR_ok {ns : List Int} (h : ns.length ≤ 63) : TyC.s__law_draws ns = .ok (TyC.drawsF ns) ∧ Dr (TyC.drawsF ns) := by
  unfold TyC.s__law_draws
  rw [if_pos h]
  exact ⟨rfl, (TyC.drawsF_ok ns h).2⟩
theorem lowR_ok {n d : Int} (h : 0 < d) (h2 : d < 2 ^ 200) : TyC.s__law_low n d = .ok (low n d) := by unfold TyC.s__law_low; rw [if_pos ⟨h, h2⟩]
theorem plainR_ok {n d : Int} (h : 0 < d) (h2 : d < 2 ^ 200) : TyC.s_plain n d = .ok (low n d) := by unfold TyC.s_plain; rw [if_pos ⟨h, h2⟩]
end Pf
/-! TyO: orders of rows of numbers; least ones; loops left early; two-for comprehensions. -/
namespace Pf
open PySem PySem.Spec PyProof.Rows L2 LawC
section
variable {α β γ δ ε σ τ : Type}
theorem ltL_int : ∀ xs ys : List Int, ltL ltI xs ys = decide (xs < ys)
  | [], [] => by simp [ltL]
  | [], y :: ys => by simp [ltL]
  | x :: xs, [] => by simp [ltL]
  | x :: xs, y :: ys => by
    show (if x = y then ltL ltI xs ys else ltI x y) = _
    by_cases h : x = y
    · subst h
      rw [if_pos rfl, ltL_int xs ys]
      simp [List.cons_lt_cons_iff]
    · rw [if_neg h]
      unfold ltI
      simp only [decide_eq_decide, List.cons_lt_cons_iff]
      omega
theorem ltL_int_iff {xs ys : List Int} : ltL ltI xs ys = true ↔ xs < ys := by rw [ltL_int, decide_eq_true_eq]
/-- a strict order on all -/
structure SO (lt : α → α → Bool) : Prop where
  ir : ∀ a, lt a a = false
  tr : ∀ a b c, lt a b = true → lt b c = true → lt a c = true
  tot : ∀ a b, lt a b = false → lt b a = false → a = b
theorem SO.as {lt : α → α → Bool} (h : SO lt) {a b : α} (q : lt a b = true) : lt b a = false := by
  cases e : lt b a with
  | false => rfl
  | true => have := h.tr _ _ _ q e; rw [h.ir] at this; cases this
theorem SO.ntr {lt : α → α → Bool} (h : SO lt) {a b c : α} (q : lt b a = false) (r : lt c b = false) : lt c a = false := by
  cases e : lt c a with
  | false => rfl
  | true =>
    cases e2 : lt a b with
    | true => have := h.tr _ _ _ e e2; rw [r] at this; cases this
    | false => rw [h.tot _ _ e2 q] at e; rw [r] at e; cases e
theorem so_I : SO ltI := ⟨fun a => by simp [ltI], fun a b c h1 h2 => by simp [ltI] at *; omega, fun a b h1 h2 => by simp [ltI] at *; omega⟩
theorem so_L : SO (ltL ltI) := ⟨ltL_ir, fun a b c h1 h2 => by
  rw [ltL_int_iff] at *
  exact List.lt_trans h1 h2, fun a b h1 h2 => by
  rw [ltL_int, decide_eq_false_iff_not] at *
  exact List.le_antisymm (List.not_lt.mp h2) (List.not_lt.mp h1)⟩
theorem so_P [DecidableEq α] {l1 : α → α → Bool} {l2 : β → β → Bool} (h1 : SO l1) (h2 : SO l2) : SO (ltP l1 l2) := ⟨fun a => by unfold ltP; rw [if_pos rfl]; exact h2.ir _, fun a b c q r => by
  unfold ltP at *
  by_cases e1 : a.1 = b.1
  · rw [if_pos e1] at q
    by_cases e2 : b.1 = c.1
    · rw [if_pos e2] at r
      rw [if_pos (e1.trans e2)]; exact h2.tr _ _ _ q r
    · rw [if_neg e2] at r
      rw [if_neg (by rw [e1]; exact e2), e1]; exact r
  · rw [if_neg e1] at q
    by_cases e2 : b.1 = c.1
    · rw [if_neg (by rw [← e2]; exact e1), ← e2]; exact q
    · rw [if_neg e2] at r
      have := h1.tr _ _ _ q r
      by_cases e3 : a.1 = c.1
      · rw [e3, h1.ir] at this; cases this
      · rw [if_neg e3]; exact this, fun a b q r => by
  unfold ltP at *
  by_cases e : a.1 = b.1
  · rw [if_pos e] at q
    rw [if_pos e.symm] at r
    exact Prod.ext e (h2.tot _ _ q r)
  · rw [if_neg e] at q
    rw [if_neg (fun z => e z.symm)] at r
    exact absurd (h1.tot _ _ q r) e⟩
theorem sortT_perm (lt : α → α → Bool) (xs : List α) : (sortT lt xs).Perm xs := List.mergeSort_perm _ _
theorem sortT_sorted {lt : α → α → Bool} (h : SO lt) (xs : List α) : (sortT lt xs).Pairwise fun a b => lt b a = false := by
  have := List.pairwise_mergeSort (le := fun a b => !lt b a) (by
    intro a b c h1 h2
    simp only [Bool.not_eq_true'] at *
    exact h.ntr h1 h2) (by
    intro a b
    cases e : lt b a with
    | false => simp
    | true => simp [h.as e]) xs
  exact this.imp fun {a b} q => by simpa using q
theorem sortT_mem {lt : α → α → Bool} {xs : List α} {x : α} : x ∈ sortT lt xs ↔ x ∈ xs := (sortT_perm lt xs).mem_iff
theorem sortT_len (lt : α → α → Bool) (xs : List α) : (sortT lt xs).length = xs.length := (sortT_perm lt xs).length_eq
theorem sorted_eq {lt : α → α → Bool} (h : SO lt) : ∀ {l m : List α}, l.Perm m → l.Pairwise (fun a b => lt b a = false) → m.Pairwise (fun a b => lt b a = false) → l = m
  | [], m, p, _, _ => (List.Perm.eq_nil p.symm).symm ▸ rfl
  | a :: l, [], p, _, _ => absurd p.length_eq (by simp)
  | a :: l, b :: m, p, h1, h2 => by
    have ha := List.pairwise_cons.mp h1
    have hb := List.pairwise_cons.mp h2
    have e : a = b := by
      have m1 : a ∈ b :: m := p.mem_iff.mp (List.mem_cons_self ..)
      have m2 : b ∈ a :: l := p.mem_iff.mpr (List.mem_cons_self ..)
      rcases List.mem_cons.mp m1 with e | m1
      · exact e
      · rcases List.mem_cons.mp m2 with e | m2
        · exact e.symm
        · exact h.tot _ _ (hb.1 a m1) (ha.1 b m2)
    subst e
    rw [sorted_eq h (List.perm_cons a |>.mp p) ha.2 hb.2]
/-- the least one -/
theorem minT_least {lt : α → α → Bool} (h : SO lt) {xs : List α} (hx : xs ≠ []) : ∃ m, minT lt xs = some m ∧ m ∈ xs ∧ ∀ y ∈ xs, lt y m = false := by
  cases xs with
  | nil => exact absurd rfl hx
  | cons x xs =>
    have key : ∀ (xs : List α) (x : α), ∃ m, xs.foldl (fun a y => if lt y a = true then y else a) x = m ∧ m ∈ x :: xs ∧ ∀ y ∈ x :: xs, lt y m = false := by
      intro xs
      induction xs with
      | nil => intro x; exact ⟨x, rfl, List.mem_cons_self .., fun y hy => by rw [List.mem_singleton.mp hy]; exact h.ir _⟩
      | cons y xs ih =>
        intro x
        by_cases q : lt y x = true
        · obtain ⟨m, e, hm, hl⟩ := ih y
          refine ⟨m, by simp only [List.foldl_cons, if_pos q]; exact e, List.mem_cons_of_mem _ hm, fun z hz => ?_⟩
          rcases List.mem_cons.mp hz with rfl | hz
          · exact h.ntr (hl y (List.mem_cons_self ..)) (h.as q)
          · exact hl z hz
        · obtain ⟨m, e, hm, hl⟩ := ih x
          have q' : lt y x = false := by simpa using q
          refine ⟨m, by simp only [List.foldl_cons, if_neg q]; exact e, ?_, fun z hz => ?_⟩
          · rcases List.mem_cons.mp hm with rfl | hm
            · exact List.mem_cons_self ..
            · exact List.mem_cons_of_mem _ (List.mem_cons_of_mem _ hm)
          · rcases List.mem_cons.mp hz with rfl | hz
            · exact hl _ (List.mem_cons_self ..)
            · rcases List.mem_cons.mp hz with rfl | hz
              · exact h.ntr (hl x (List.mem_cons_self ..)) q'
              · exact hl z (List.mem_cons_of_mem _ hz)
    obtain ⟨m, e, h1, h2⟩ := key xs x
    exact ⟨m, congrArg some e, h1, h2⟩
theorem minER_ok {lt : α → α → Bool} (h : SO lt) (e : α → PyData) {xs : List α} (hx : xs ≠ []) (hl : xs.length ≤ 16777216) : ∃ m, minER e lt xs = .ok m ∧ m ∈ xs ∧ ∀ y ∈ xs, lt y m = false := by
  obtain ⟨m, h1, h2, h3⟩ := minT_least h hx
  exact ⟨m, by unfold minER; rw [if_pos hl, h1]; rfl, h2, h3⟩
theorem maxT_greatest {lt : α → α → Bool} (h : SO lt) {xs : List α} (hx : xs ≠ []) : ∃ m, maxT lt xs = some m ∧ m ∈ xs ∧ ∀ y ∈ xs, lt m y = false := by
  have := minT_least (lt := fun a b => lt b a) ⟨h.ir, fun a b c p q => h.tr _ _ _ q p, fun a b p q => (h.tot _ _ p q).symm⟩ hx
  cases xs with
  | nil => exact absurd rfl hx
  | cons x xs => exact this
theorem maxER_ok {lt : α → α → Bool} (h : SO lt) (e : α → PyData) {xs : List α} (hx : xs ≠ []) (hl : xs.length ≤ 16777216) : ∃ m, maxER e lt xs = .ok m ∧ m ∈ xs ∧ ∀ y ∈ xs, lt m y = false := by
  obtain ⟨m, h1, h2, h3⟩ := maxT_greatest h hx
  exact ⟨m, by unfold maxER; rw [if_pos hl, h1]; rfl, h2, h3⟩
/-- least, greatest numbers -/
theorem minL_ex {xs : List Int} (hx : xs ≠ []) : ∃ m, minL xs = some m ∧ m ∈ xs ∧ ∀ y ∈ xs, m ≤ y := by
  cases xs with
  | nil => exact absurd rfl hx
  | cons x xs =>
    have key : ∀ (xs : List Int) (x : Int), xs.foldl min x ∈ x :: xs ∧ ∀ y ∈ x :: xs, xs.foldl min x ≤ y := by
      intro xs
      induction xs with
      | nil => intro x; exact ⟨List.mem_cons_self .., fun y hy => by rw [List.mem_singleton.mp hy]; exact Int.le_refl _⟩
      | cons y xs ih =>
        intro x
        obtain ⟨h1, h2⟩ := ih (min x y)
        refine ⟨?_, fun z hz => ?_⟩
        · simp only [List.foldl_cons]
          rcases List.mem_cons.mp h1 with h1 | h1
          · rw [h1]
            by_cases q : x ≤ y
            · rw [Int.min_eq_left q]; exact List.mem_cons_self ..
            · rw [Int.min_eq_right (by omega)]; exact List.mem_cons_of_mem _ (List.mem_cons_self ..)
          · exact List.mem_cons_of_mem _ (List.mem_cons_of_mem _ h1)
        · simp only [List.foldl_cons]
          have := h2 (min x y) (List.mem_cons_self ..)
          rcases List.mem_cons.mp hz with rfl | hz
          · omega
          · rcases List.mem_cons.mp hz with rfl | hz
            · omega
            · exact h2 z (List.mem_cons_of_mem _ hz)
    exact ⟨_, rfl, (key xs x).1, (key xs x).2⟩
theorem maxL_ex {xs : List Int} (hx : xs ≠ []) : ∃ m, maxL xs = some m ∧ m ∈ xs ∧ ∀ y ∈ xs, y ≤ m := by
  cases xs with
  | nil => exact absurd rfl hx
  | cons x xs =>
    have key : ∀ (xs : List Int) (x : Int), xs.foldl max x ∈ x :: xs ∧ ∀ y ∈ x :: xs, y ≤ xs.foldl max x := by
      intro xs
      induction xs with
      | nil => intro x; exact ⟨List.mem_cons_self .., fun y hy => by rw [List.mem_singleton.mp hy]; exact Int.le_refl _⟩
      | cons y xs ih =>
        intro x
        obtain ⟨h1, h2⟩ := ih (max x y)
        refine ⟨?_, fun z hz => ?_⟩
        · simp only [List.foldl_cons]
          rcases List.mem_cons.mp h1 with h1 | h1
          · rw [h1]
            by_cases q : y ≤ x
            · rw [Int.max_eq_left q]; exact List.mem_cons_self ..
            · rw [Int.max_eq_right (by omega)]; exact List.mem_cons_of_mem _ (List.mem_cons_self ..)
          · exact List.mem_cons_of_mem _ (List.mem_cons_of_mem _ h1)
        · simp only [List.foldl_cons]
          have := h2 (max x y) (List.mem_cons_self ..)
          rcases List.mem_cons.mp hz with rfl | hz
          · omega
          · rcases List.mem_cons.mp hz with rfl | hz
            · omega
            · exact h2 z (List.mem_cons_of_mem _ hz)
    exact ⟨_, rfl, (key xs x).1, (key xs x).2⟩
/-- loops left with one and the same answer -/
theorem forR_ret {step : Unit → α → Res (Fl Unit τ)} {v : τ} (q : α → Bool) : ∀ {xs : List α}, (∀ x ∈ xs, step () x = .ok (if q x = true then .ret v else .nx ())) → forR step () xs = .ok (if xs.any q = true then .ret v else .nx ())
  | [], _ => rfl
  | x :: xs, h => by
    have h1 := h x (List.mem_cons_self ..)
    unfold forR
    rw [h1]
    cases e : q x with
    | true => simp [e]
    | false =>
      simp only [Bool.false_eq_true, if_false, Res.bind_ok, List.any_cons, e, Bool.false_or]
      exact forR_ret q fun y hy => h y (List.mem_cons_of_mem _ hy)
/-- left with an error at the first bad one -/
theorem foldR_exc {step : Unit → α → Res Unit} {c : Str} {k : Int} : ∀ {ys : List α} {x : α} {zs : List α}, (∀ y ∈ ys, step () y = .ok ()) → step () x = .exc c k → foldR step () (ys ++ x :: zs) = .exc c k
  | [], x, zs, _, h => by rw [List.nil_append, foldR_cons, h]; rfl
  | y :: ys, x, zs, h1, h2 => by
    rw [List.cons_append, foldR_cons, h1 y (List.mem_cons_self ..)]
    exact foldR_exc (fun z hz => h1 z (List.mem_cons_of_mem _ hz)) h2
theorem comp2R_ok {p : α → Res Bool} {q : α → Res (List ε)} {p1 : α → ε → Res Bool} {f : α → ε → Res β} {Q : α → List ε} {P1 : α → ε → Bool} {F : α → ε → β} : ∀ {xs : List α}, (∀ x ∈ xs, p x = .ok true) → (∀ x ∈ xs, q x = .ok (Q x)) → (∀ x ∈ xs, ∀ y ∈ Q x, p1 x y = .ok (P1 x y)) → (∀ x ∈ xs, ∀ y ∈ Q x, P1 x y = true → f x y = .ok (F x y)) → comp2R p q p1 f xs = .ok (xs.flatMap fun x => ((Q x).filter (P1 x)).map (F x))
  | [], _, _, _, _ => rfl
  | x :: xs, h1, h2, h3, h4 => by
    have ih := comp2R_ok (xs := xs) (fun y hy => h1 y (List.mem_cons_of_mem _ hy)) (fun y hy => h2 y (List.mem_cons_of_mem _ hy)) (fun y hy => h3 y (List.mem_cons_of_mem _ hy)) fun y hy => h4 y (List.mem_cons_of_mem _ hy)
    unfold comp2R
    rw [h1 x (List.mem_cons_self ..), h2 x (List.mem_cons_self ..)]
    simp only [Res.hush_ok, Res.bind_ok, if_true]
    rw [compR_ok (h3 x (List.mem_cons_self ..)) (h4 x (List.mem_cons_self ..)), ih]
    rfl
theorem sumLR_ok {xss : List (List α)} {ys : List α} (h : ys.length + (xss.map List.length).sum ≤ 16777216) : sumLR xss ys = .ok (ys ++ xss.flatten) := by unfold sumLR; rw [if_pos h]
theorem putR_ok {xs : List α} {i : Int} {x : α} (h0 : 0 ≤ i) (h : i < xs.length) : putR xs i x = .ok (xs.set i.toNat x) := by
  unfold putR ixN
  rw [if_pos h0, if_pos h]
theorem whileR_step {c : σ → Res Bool} {step : σ → Res σ} {n : Nat} {a a' : σ} (h : c a = .ok true) (h2 : step a = .ok a') : whileR c step (n + 1) a = whileR c step n a' := by
  rw [whileR, h]; simp only [Res.bind_ok, if_true, h2]
theorem whileR_end {c : σ → Res Bool} {step : σ → Res σ} {n : Nat} {a : σ} (h : c a = .ok false) : whileR c step (n + 1) a = .ok a := by
  rw [whileR, h]; simp
theorem whileRF_nx {c : σ → Res Bool} {step : σ → Res (Fl σ τ)} {n : Nat} {a a' : σ} (h : c a = .ok true) (h2 : step a = .ok (.nx a')) : whileRF c step (n + 1) a = whileRF c step n a' := by
  rw [whileRF, h]; simp only [Res.bind_ok, if_true, h2]
theorem whileRF_ret {c : σ → Res Bool} {step : σ → Res (Fl σ τ)} {n : Nat} {a : σ} {t : τ} (h : c a = .ok true) (h2 : step a = .ok (.ret t)) : whileRF c step (n + 1) a = .ok (.ret t) := by
  rw [whileRF, h]; simp only [Res.bind_ok, if_true, h2]
theorem whileRF_end {c : σ → Res Bool} {step : σ → Res (Fl σ τ)} {n : Nat} {a : σ} (h : c a = .ok false) : whileRF c step (n + 1) a = .ok (.nx a) := by
  rw [whileRF, h]; simp
theorem mapR_ex {f : α → Res β} (P : α → β → Prop) : ∀ {xs : List α}, (∀ x ∈ xs, ∃ y, f x = .ok y ∧ P x y) → ∃ ys, compR (fun _ => Res.ok true) f xs = .ok ys ∧ ys.length = xs.length ∧ ∀ i (h1 : i < xs.length) (h2 : i < ys.length), P xs[i] ys[i]
  | [], _ => ⟨[], rfl, rfl, fun i h1 _ => absurd h1 (by simp)⟩
  | x :: xs, h => by
    obtain ⟨y, e, p⟩ := h x (List.mem_cons_self ..)
    obtain ⟨ys, e2, l, q⟩ := mapR_ex P fun z hz => h z (List.mem_cons_of_mem _ hz)
    refine ⟨y :: ys, ?_, by simp [l], fun i h1 h2 => ?_⟩
    · unfold compR
      simp only [Res.hush_ok, Res.bind_ok, if_true, e, e2]
    · cases i with
      | zero => exact p
      | succ i => exact q i (by simpa using h1) (by simpa using h2)
theorem rngI_at {lo : Int} {n i : Nat} (h : i < (rngI lo n).length) : (rngI lo n)[i] = lo + (i : Nat) := by simp [rngI]
theorem rngI_0 (n : Nat) : rngI 0 n = (List.range n).map fun i => ((i : Nat) : Int) := by simp [rngI]
theorem rngI_len (a : Int) (n : Nat) : (rngI a n).length = n := by simp [rngI]
theorem getD_mem {xs : List α} {i : Nat} (d : α) (h : i < xs.length) : xs.getD i d ∈ xs := by
  rw [List.getD_eq_getElem?_getD, List.getElem?_eq_getElem h]; exact List.getElem_mem h
end
end Pf
namespace K42
open PySem PySem.Spec PyProof.Rows L2 Pf
abbrev PP : Program := (PySem.Challenge.rw_truebidsbest_k42_main_rules_and_rounds_o).prog
def top (i : Nat) : Stmt := PySem.Challenge.pw_truebidsbest_k42_main_rules_and_rounds_o.main.body.getD i (.Pass ⟨0, 0, 0, 0⟩)
def initOf : Stmt → Stmt
  | .ClassDef _ _ _ b _ _ _ _ _ _ _ => b.getD 0 (.Pass ⟨0, 0, 0, 0⟩)
  | s => s
abbrev initSt : Stmt := initOf (top 1)
abbrev st_check_rule : Stmt := top 9
abbrev st_likes_more : Stmt := top 10
abbrev st_does_keep : Stmt := top 11
abbrev st_keep_truth : Stmt := top 12
abbrev st_sum_round : Stmt := top 13
abbrev st_gain_of_round : Stmt := top 14
abbrev st_longer : Stmt := top 15
abbrev st_round_of_gains : Stmt := top 16
abbrev st_greatest_payments : Stmt := top 17
abbrev st__law_draws : Stmt := top 19
abbrev st__law_mix : Stmt := top 20
abbrev st__law_rows : Stmt := top 21
abbrev st__law_more : Stmt := top 22
abbrev st__law_gain : Stmt := top 23
abbrev st__law_keeps : Stmt := top 24
abbrev st__law_greatest : Stmt := top 25
abbrev st__law_refused : Stmt := top 26
abbrev st_law : Stmt := top 27
def dd_check_rule : He.DefD := ⟨("check_rule", none), "check_rule", "check_rule", defArgs st_check_rule, defBody st_check_rule, defScope st_check_rule, [], []⟩
def dd_likes_more : He.DefD := ⟨("likes_more", none), "likes_more", "likes_more", defArgs st_likes_more, defBody st_likes_more, defScope st_likes_more, [], []⟩
def dd_does_keep : He.DefD := ⟨("does_keep", none), "does_keep", "does_keep", defArgs st_does_keep, defBody st_does_keep, defScope st_does_keep, [], []⟩
def dd_keep_truth : He.DefD := ⟨("keep_truth", none), "keep_truth", "keep_truth", defArgs st_keep_truth, defBody st_keep_truth, defScope st_keep_truth, [], []⟩
def dd_sum_round : He.DefD := ⟨("sum_round", none), "sum_round", "sum_round", defArgs st_sum_round, defBody st_sum_round, defScope st_sum_round, [], []⟩
def dd_gain_of_round : He.DefD := ⟨("gain_of_round", none), "gain_of_round", "gain_of_round", defArgs st_gain_of_round, defBody st_gain_of_round, defScope st_gain_of_round, [], []⟩
def dd_longer : He.DefD := ⟨("longer", none), "longer", "longer", defArgs st_longer, defBody st_longer, defScope st_longer, [], []⟩
def dd_round_of_gains : He.DefD := ⟨("round_of_gains", none), "round_of_gains", "round_of_gains", defArgs st_round_of_gains, defBody st_round_of_gains, defScope st_round_of_gains, [], []⟩
def dd_greatest_payments : He.DefD := ⟨("greatest_payments", none), "greatest_payments", "greatest_payments", defArgs st_greatest_payments, defBody st_greatest_payments, defScope st_greatest_payments, [], []⟩
def dd__law_draws : He.DefD := ⟨("_law_draws", none), "_law_draws", "_law_draws", defArgs st__law_draws, defBody st__law_draws, defScope st__law_draws, [], []⟩
def dd__law_mix : He.DefD := ⟨("_law_mix", none), "_law_mix", "_law_mix", defArgs st__law_mix, defBody st__law_mix, defScope st__law_mix, [], []⟩
def dd__law_rows : He.DefD := ⟨("_law_rows", none), "_law_rows", "_law_rows", defArgs st__law_rows, defBody st__law_rows, defScope st__law_rows, [], []⟩
def dd__law_more : He.DefD := ⟨("_law_more", none), "_law_more", "_law_more", defArgs st__law_more, defBody st__law_more, defScope st__law_more, [], []⟩
def dd__law_gain : He.DefD := ⟨("_law_gain", none), "_law_gain", "_law_gain", defArgs st__law_gain, defBody st__law_gain, defScope st__law_gain, [], []⟩
def dd__law_keeps : He.DefD := ⟨("_law_keeps", none), "_law_keeps", "_law_keeps", defArgs st__law_keeps, defBody st__law_keeps, defScope st__law_keeps, [], []⟩
def dd__law_greatest : He.DefD := ⟨("_law_greatest", none), "_law_greatest", "_law_greatest", defArgs st__law_greatest, defBody st__law_greatest, defScope st__law_greatest, [], []⟩
def dd__law_refused : He.DefD := ⟨("_law_refused", none), "_law_refused", "_law_refused", defArgs st__law_refused, defBody st__law_refused, defScope st__law_refused, [], []⟩
def dd_law : He.DefD := ⟨("law", none), "law", "law", defArgs st_law, defBody st_law, defScope st_law, [], []⟩
def fnL0 : List He.DefD := [dd_check_rule, dd_likes_more, dd_does_keep, dd_keep_truth, dd_sum_round, dd_gain_of_round, dd_longer, dd_round_of_gains, dd_greatest_payments, dd__law_draws, dd__law_mix, dd__law_rows, dd__law_more, dd__law_gain, dd__law_keeps, dd__law_greatest, dd__law_refused, dd_law]
abbrev fnL : List He.DefD := fnL0
def faL0 : List He.Fa := [.glo "check_rule", .glo "likes_more", .glo "does_keep", .glo "keep_truth", .glo "sum_round", .glo "gain_of_round", .glo "longer", .glo "round_of_gains", .glo "greatest_payments", .glo "_law_draws", .glo "_law_mix", .glo "_law_rows", .glo "_law_more", .glo "_law_gain", .glo "_law_keeps", .glo "_law_greatest", .glo "_law_refused", .glo "law", .glo "AuctionError", .glo "BadType", .glo "BadEnd", .glo "BadPaid", .free "len", .free "enumerate", .free "all", .free "range", .free "sum", .free "min", .free "abs", .free "int"]
def faL1 : List He.Fa := [.free "sorted", .free "max", .free "list", .free "super", .int "MOST_WORTH" 1000000, .int "MOST_TYPES" 6, .int "MOST_ENDS" 64]
abbrev faL : List He.Fa := faL0 ++ faL1
def names0 : List Str := ["AuctionError", "BadType", "BadEnd", "BadPaid", "MOST_WORTH", "MOST_TYPES", "MOST_ENDS", "check_rule", "likes_more", "does_keep", "keep_truth", "sum_round", "gain_of_round", "longer", "round_of_gains", "greatest_payments", "_law_draws", "_law_mix", "_law_rows", "_law_more", "_law_gain", "_law_keeps", "_law_greatest", "_law_refused"]
abbrev names : List Str := names0
def wt : WtT where
  fa := faL
  fn := fnL
  D := "AuctionError"
  qual := "AuctionError.__init__"
  st := initSt
  file := PP.main.file
  cs := ["BadEnd", "BadPaid", "BadType"]
  ex := [("BadEnd", "BadType", false), ("BadEnd", "BadEnd", true), ("BadEnd", "BadPaid", false), ("BadPaid", "BadType", false), ("BadPaid", "BadEnd", false), ("BadPaid", "BadPaid", true), ("BadType", "BadType", true), ("BadType", "BadEnd", false), ("BadType", "BadPaid", false)]
  tp := []
structure M (K : PySem.W.Frag) (mg : Str → Option Value) : Prop where
  h : ∃ hp : Heap, K.In hp ∧ hp.Ns mainGlobals mg
  c : SaysT wt K
section
variable {K : PySem.W.Frag} {mg : Str → Option Value}
theorem M.gl_check_rule (m : M K mg) : mg "check_rule" = some (.ref (He.ga K "check_rule")) := by
  obtain ⟨_, X, G⟩ := m.h
  exact He.glo_ok X G (m.c.p.d.fact 0 (f := .glo "check_rule") rfl)
theorem M.gl_likes_more (m : M K mg) : mg "likes_more" = some (.ref (He.ga K "likes_more")) := by
  obtain ⟨_, X, G⟩ := m.h
  exact He.glo_ok X G (m.c.p.d.fact 1 (f := .glo "likes_more") rfl)
theorem M.gl_does_keep (m : M K mg) : mg "does_keep" = some (.ref (He.ga K "does_keep")) := by
  obtain ⟨_, X, G⟩ := m.h
  exact He.glo_ok X G (m.c.p.d.fact 2 (f := .glo "does_keep") rfl)
theorem M.gl_keep_truth (m : M K mg) : mg "keep_truth" = some (.ref (He.ga K "keep_truth")) := by
  obtain ⟨_, X, G⟩ := m.h
  exact He.glo_ok X G (m.c.p.d.fact 3 (f := .glo "keep_truth") rfl)
theorem M.gl_sum_round (m : M K mg) : mg "sum_round" = some (.ref (He.ga K "sum_round")) := by
  obtain ⟨_, X, G⟩ := m.h
  exact He.glo_ok X G (m.c.p.d.fact 4 (f := .glo "sum_round") rfl)
theorem M.gl_gain_of_round (m : M K mg) : mg "gain_of_round" = some (.ref (He.ga K "gain_of_round")) := by
  obtain ⟨_, X, G⟩ := m.h
  exact He.glo_ok X G (m.c.p.d.fact 5 (f := .glo "gain_of_round") rfl)
theorem M.gl_longer (m : M K mg) : mg "longer" = some (.ref (He.ga K "longer")) := by
  obtain ⟨_, X, G⟩ := m.h
  exact He.glo_ok X G (m.c.p.d.fact 6 (f := .glo "longer") rfl)
theorem M.gl_round_of_gains (m : M K mg) : mg "round_of_gains" = some (.ref (He.ga K "round_of_gains")) := by
  obtain ⟨_, X, G⟩ := m.h
  exact He.glo_ok X G (m.c.p.d.fact 7 (f := .glo "round_of_gains") rfl)
theorem M.gl_greatest_payments (m : M K mg) : mg "greatest_payments" = some (.ref (He.ga K "greatest_payments")) := by
  obtain ⟨_, X, G⟩ := m.h
  exact He.glo_ok X G (m.c.p.d.fact 8 (f := .glo "greatest_payments") rfl)
theorem M.gl__law_draws (m : M K mg) : mg "_law_draws" = some (.ref (He.ga K "_law_draws")) := by
  obtain ⟨_, X, G⟩ := m.h
  exact He.glo_ok X G (m.c.p.d.fact 9 (f := .glo "_law_draws") rfl)
theorem M.gl__law_mix (m : M K mg) : mg "_law_mix" = some (.ref (He.ga K "_law_mix")) := by
  obtain ⟨_, X, G⟩ := m.h
  exact He.glo_ok X G (m.c.p.d.fact 10 (f := .glo "_law_mix") rfl)
theorem M.gl__law_rows (m : M K mg) : mg "_law_rows" = some (.ref (He.ga K "_law_rows")) := by
  obtain ⟨_, X, G⟩ := m.h
  exact He.glo_ok X G (m.c.p.d.fact 11 (f := .glo "_law_rows") rfl)
theorem M.gl__law_more (m : M K mg) : mg "_law_more" = some (.ref (He.ga K "_law_more")) := by
  obtain ⟨_, X, G⟩ := m.h
  exact He.glo_ok X G (m.c.p.d.fact 12 (f := .glo "_law_more") rfl)
theorem M.gl__law_gain (m : M K mg) : mg "_law_gain" = some (.ref (He.ga K "_law_gain")) := by
  obtain ⟨_, X, G⟩ := m.h
  exact He.glo_ok X G (m.c.p.d.fact 13 (f := .glo "_law_gain") rfl)
theorem M.gl__law_keeps (m : M K mg) : mg "_law_keeps" = some (.ref (He.ga K "_law_keeps")) := by
  obtain ⟨_, X, G⟩ := m.h
  exact He.glo_ok X G (m.c.p.d.fact 14 (f := .glo "_law_keeps") rfl)
theorem M.gl__law_greatest (m : M K mg) : mg "_law_greatest" = some (.ref (He.ga K "_law_greatest")) := by
  obtain ⟨_, X, G⟩ := m.h
  exact He.glo_ok X G (m.c.p.d.fact 15 (f := .glo "_law_greatest") rfl)
theorem M.gl__law_refused (m : M K mg) : mg "_law_refused" = some (.ref (He.ga K "_law_refused")) := by
  obtain ⟨_, X, G⟩ := m.h
  exact He.glo_ok X G (m.c.p.d.fact 16 (f := .glo "_law_refused") rfl)
theorem M.gl_law (m : M K mg) : mg "law" = some (.ref (He.ga K "law")) := by
  obtain ⟨_, X, G⟩ := m.h
  exact He.glo_ok X G (m.c.p.d.fact 17 (f := .glo "law") rfl)
theorem M.gl_AuctionError (m : M K mg) : mg "AuctionError" = some (.ref (He.ga K "AuctionError")) := by
  obtain ⟨_, X, G⟩ := m.h
  exact He.glo_ok X G (m.c.p.d.fact 18 (f := .glo "AuctionError") rfl)
theorem M.gl_BadType (m : M K mg) : mg "BadType" = some (.ref (He.ga K "BadType")) := by
  obtain ⟨_, X, G⟩ := m.h
  exact He.glo_ok X G (m.c.p.d.fact 19 (f := .glo "BadType") rfl)
theorem M.gl_BadEnd (m : M K mg) : mg "BadEnd" = some (.ref (He.ga K "BadEnd")) := by
  obtain ⟨_, X, G⟩ := m.h
  exact He.glo_ok X G (m.c.p.d.fact 20 (f := .glo "BadEnd") rfl)
theorem M.gl_BadPaid (m : M K mg) : mg "BadPaid" = some (.ref (He.ga K "BadPaid")) := by
  obtain ⟨_, X, G⟩ := m.h
  exact He.glo_ok X G (m.c.p.d.fact 21 (f := .glo "BadPaid") rfl)
theorem M.fr_len (m : M K mg) : mg "len" = none := by
  obtain ⟨_, X, G⟩ := m.h
  exact He.free_ok X G (m.c.p.d.fact 22 (f := .free "len") rfl)
theorem M.fr_enumerate (m : M K mg) : mg "enumerate" = none := by
  obtain ⟨_, X, G⟩ := m.h
  exact He.free_ok X G (m.c.p.d.fact 23 (f := .free "enumerate") rfl)
theorem M.fr_all (m : M K mg) : mg "all" = none := by
  obtain ⟨_, X, G⟩ := m.h
  exact He.free_ok X G (m.c.p.d.fact 24 (f := .free "all") rfl)
theorem M.fr_range (m : M K mg) : mg "range" = none := by
  obtain ⟨_, X, G⟩ := m.h
  exact He.free_ok X G (m.c.p.d.fact 25 (f := .free "range") rfl)
theorem M.fr_sum (m : M K mg) : mg "sum" = none := by
  obtain ⟨_, X, G⟩ := m.h
  exact He.free_ok X G (m.c.p.d.fact 26 (f := .free "sum") rfl)
theorem M.fr_min (m : M K mg) : mg "min" = none := by
  obtain ⟨_, X, G⟩ := m.h
  exact He.free_ok X G (m.c.p.d.fact 27 (f := .free "min") rfl)
theorem M.fr_abs (m : M K mg) : mg "abs" = none := by
  obtain ⟨_, X, G⟩ := m.h
  exact He.free_ok X G (m.c.p.d.fact 28 (f := .free "abs") rfl)
theorem M.fr_int (m : M K mg) : mg "int" = none := by
  obtain ⟨_, X, G⟩ := m.h
  exact He.free_ok X G (m.c.p.d.fact 29 (f := .free "int") rfl)
theorem M.fr_sorted (m : M K mg) : mg "sorted" = none := by
  obtain ⟨_, X, G⟩ := m.h
  exact He.free_ok X G (m.c.p.d.fact 30 (f := .free "sorted") rfl)
theorem M.fr_max (m : M K mg) : mg "max" = none := by
  obtain ⟨_, X, G⟩ := m.h
  exact He.free_ok X G (m.c.p.d.fact 31 (f := .free "max") rfl)
theorem M.fr_list (m : M K mg) : mg "list" = none := by
  obtain ⟨_, X, G⟩ := m.h
  exact He.free_ok X G (m.c.p.d.fact 32 (f := .free "list") rfl)
theorem M.fr_super (m : M K mg) : mg "super" = none := by
  obtain ⟨_, X, G⟩ := m.h
  exact He.free_ok X G (m.c.p.d.fact 33 (f := .free "super") rfl)
theorem M.in_MOST_WORTH (m : M K mg) : ∃ t, mg "MOST_WORTH" = some (.int 1000000 t) := by
  obtain ⟨_, X, G⟩ := m.h
  exact He.int_ok X G (m.c.p.d.fact 34 (f := .int "MOST_WORTH" 1000000) rfl)
theorem M.in_MOST_TYPES (m : M K mg) : ∃ t, mg "MOST_TYPES" = some (.int 6 t) := by
  obtain ⟨_, X, G⟩ := m.h
  exact He.int_ok X G (m.c.p.d.fact 35 (f := .int "MOST_TYPES" 6) rfl)
theorem M.in_MOST_ENDS (m : M K mg) : ∃ t, mg "MOST_ENDS" = some (.int 64 t) := by
  obtain ⟨_, X, G⟩ := m.h
  exact He.int_ok X G (m.c.p.d.fact 36 (f := .int "MOST_ENDS" 64) rfl)
theorem M.fn_check_rule (m : M K mg) : ∃ fd, FnP K "check_rule" st_check_rule (He.ga K "check_rule") fd := m.c.p.d.def_ 0 (d := dd_check_rule) rfl
theorem M.fn_likes_more (m : M K mg) : ∃ fd, FnP K "likes_more" st_likes_more (He.ga K "likes_more") fd := m.c.p.d.def_ 1 (d := dd_likes_more) rfl
theorem M.fn_does_keep (m : M K mg) : ∃ fd, FnP K "does_keep" st_does_keep (He.ga K "does_keep") fd := m.c.p.d.def_ 2 (d := dd_does_keep) rfl
theorem M.fn_keep_truth (m : M K mg) : ∃ fd, FnP K "keep_truth" st_keep_truth (He.ga K "keep_truth") fd := m.c.p.d.def_ 3 (d := dd_keep_truth) rfl
theorem M.fn_sum_round (m : M K mg) : ∃ fd, FnP K "sum_round" st_sum_round (He.ga K "sum_round") fd := m.c.p.d.def_ 4 (d := dd_sum_round) rfl
theorem M.fn_gain_of_round (m : M K mg) : ∃ fd, FnP K "gain_of_round" st_gain_of_round (He.ga K "gain_of_round") fd := m.c.p.d.def_ 5 (d := dd_gain_of_round) rfl
theorem M.fn_longer (m : M K mg) : ∃ fd, FnP K "longer" st_longer (He.ga K "longer") fd := m.c.p.d.def_ 6 (d := dd_longer) rfl
theorem M.fn_round_of_gains (m : M K mg) : ∃ fd, FnP K "round_of_gains" st_round_of_gains (He.ga K "round_of_gains") fd := m.c.p.d.def_ 7 (d := dd_round_of_gains) rfl
theorem M.fn_greatest_payments (m : M K mg) : ∃ fd, FnP K "greatest_payments" st_greatest_payments (He.ga K "greatest_payments") fd := m.c.p.d.def_ 8 (d := dd_greatest_payments) rfl
theorem M.fn__law_draws (m : M K mg) : ∃ fd, FnP K "_law_draws" st__law_draws (He.ga K "_law_draws") fd := m.c.p.d.def_ 9 (d := dd__law_draws) rfl
theorem M.fn__law_mix (m : M K mg) : ∃ fd, FnP K "_law_mix" st__law_mix (He.ga K "_law_mix") fd := m.c.p.d.def_ 10 (d := dd__law_mix) rfl
theorem M.fn__law_rows (m : M K mg) : ∃ fd, FnP K "_law_rows" st__law_rows (He.ga K "_law_rows") fd := m.c.p.d.def_ 11 (d := dd__law_rows) rfl
theorem M.fn__law_more (m : M K mg) : ∃ fd, FnP K "_law_more" st__law_more (He.ga K "_law_more") fd := m.c.p.d.def_ 12 (d := dd__law_more) rfl
theorem M.fn__law_gain (m : M K mg) : ∃ fd, FnP K "_law_gain" st__law_gain (He.ga K "_law_gain") fd := m.c.p.d.def_ 13 (d := dd__law_gain) rfl
theorem M.fn__law_keeps (m : M K mg) : ∃ fd, FnP K "_law_keeps" st__law_keeps (He.ga K "_law_keeps") fd := m.c.p.d.def_ 14 (d := dd__law_keeps) rfl
theorem M.fn__law_greatest (m : M K mg) : ∃ fd, FnP K "_law_greatest" st__law_greatest (He.ga K "_law_greatest") fd := m.c.p.d.def_ 15 (d := dd__law_greatest) rfl
theorem M.fn__law_refused (m : M K mg) : ∃ fd, FnP K "_law_refused" st__law_refused (He.ga K "_law_refused") fd := m.c.p.d.def_ 16 (d := dd__law_refused) rfl
theorem M.fn_law (m : M K mg) : ∃ fd, FnP K "law" st_law (He.ga K "law") fd := m.c.p.d.def_ 17 (d := dd_law) rfl
theorem M.ex_BadEnd (m : M K mg) : ExcOk K (He.ga K "AuctionError") (iA K "AuctionError") (He.ga K "BadEnd") := (exOkB_ok (m.c.p.b.2.1 "BadEnd" (by decide))).1
theorem M.ex_BadPaid (m : M K mg) : ExcOk K (He.ga K "AuctionError") (iA K "AuctionError") (He.ga K "BadPaid") := (exOkB_ok (m.c.p.b.2.1 "BadPaid" (by decide))).1
theorem M.ex_BadType (m : M K mg) : ExcOk K (He.ga K "AuctionError") (iA K "AuctionError") (He.ga K "BadType") := (exOkB_ok (m.c.p.b.2.1 "BadType" (by decide))).1
theorem M.xf_BadEnd (m : M K mg) : XfC K (He.ga K "BadEnd") := (exOkB_ok (m.c.p.b.2.1 "BadEnd" (by decide))).2
theorem M.xf_BadPaid (m : M K mg) : XfC K (He.ga K "BadPaid") := (exOkB_ok (m.c.p.b.2.1 "BadPaid" (by decide))).2
theorem M.xf_BadType (m : M K mg) : XfC K (He.ga K "BadType") := (exOkB_ok (m.c.p.b.2.1 "BadType" (by decide))).2
theorem isc : InitSc initSt := ⟨rfl, rfl, rfl, rfl, rfl, rfl, rfl, by decide +kernel, fun x h => by
    have key : ∀ y ∈ (defScope initSt).names, y.2 = .free → y.1 = ("__class__" : Str) := by decide +kernel
    exact key _ (PySem.mem_of_lookup h) rfl, rfl, ⟨_, _, _, _, _, _, _, _, _, _, rfl, fun env => ⟨_, rfl⟩, rfl⟩⟩
theorem M.init (m : M K mg) : ∃ fd, InitF PP K mg "AuctionError.__init__" initSt (iA K "AuctionError") fd (He.ga K "AuctionError") (cA K "AuctionError") ∧ Binds K fd ["self", "at"] [] := by
  obtain ⟨fd, I⟩ := inB_ok (P := PP) (mg := mg) (D := "AuctionError") (qual := "AuctionError.__init__") (st := initSt) m.c.p.b.1 m.c.p.i m.fr_super (by decide +kernel)
  refine ⟨fd, I, ?_⟩
  obtain ⟨oc, od, kV, doc, pm, an, cda, ct, osl, ccl, cdd, vs, ccs, file, tf, rfl, _⟩ := I.ex
  exact .all fun us hl => match us, hl with | [_, _], _ => rfl
end
def m_check_rule : List PyData → Res PyData := mDef 2 4 (
 sSeq (sIf (eNot (eChain leD leD (eC (.int 1)) (e1 lenD (eCons (eVarB 0) eNil)) (eC (.int 6))))
      (sRaise "BadType" (e1 negD (eC (.int 1))))
      (sPass))
      (sSeq (sFor (e1 enumL (eCons (eVar 0) eNil)) (gUnp (gsCons (gSet 2) (gsCons (gSet 3) (gsNil))))
      (sSeq (sIf (eOr (eNot (eChain leD leD (eC (.int 1)) (e1 lenD (eCons (eVarB 3) eNil)) (eC (.int 64)))) (eTb (e2 neD (e1 lenD (eCons (eVarB 3) eNil)) (e1 lenD (eCons (e2 ixD (eVarB 0) (eC (.int 0))) eNil)))))
      (sRaise "BadType" (eVarB 2))
      (sPass))
      (sIf (eNot (eTb (e1 allD (eCons (e1 listD (eComp [5] (e1 itL (eVarB 3)) (gSet 5) (eTrue) (eBool (eChain leD leD (eC (.int 0)) (eVarB 5) (eC (.int 1000000)))))) eNil))))
      (sRaise "BadType" (eVarB 2))
      (sPass))))
      (sSeq (sFor (e1 enumL (eCons (eSl slT (eVarB 1) (eNone) (e1 asI (e1 lenD (eCons (eVarB 0) eNil)))) eNil)) (gUnp (gsCons (gSet 2) (gsCons (gSet 4) (gsNil))))
      (sIf (eNot (eChain leD ltD (eC (.int 0)) (eVarB 4) (e1 lenD (eCons (e2 ixD (eVarB 0) (eC (.int 0))) eNil))))
      (sRaise "BadEnd" (eVarB 2))
      (sPass)))
      (sIf (eTb (e2 neD (e1 lenD (eCons (eVarB 1) eNil)) (e1 lenD (eCons (eVarB 0) eNil))))
      (sRaise "BadEnd" (e1 lenD (eCons (eVarB 0) eNil)))
      (sPass)))))
theorem sc_check_rule : FnScope ["types", "chosen", "k", "told", "end", "worth"] ["types", "chosen"] (defScope st_check_rule) := ⟨rfl, rfl, rfl, by decide +kernel, rfl, by decide +kernel, by decide +kernel⟩
theorem ok_check_rule {w : World} {K : PySem.W.Frag} {mg : Str → Option Value} {base : Heap} (m : M K mg) {fd : FuncData} (F : FnP K "check_rule" st_check_rule (He.ga K "check_rule") fd) : FnOk PP w K mg base (L2.CX PP w) 3 (He.ga K "check_rule") fd ["types", "chosen"] (spOf K mg 2 m_check_rule) := by
  obtain ⟨fdI, Ii, bI⟩ := m.init
  exact fnD_ok F sc_check_rule rfl rfl (by decide) fun cdv A outer s H E hr =>
   ps_seq (pq_if (pf_not (pf_chainT cm_le cm_le (pf_b (pf_int)) (pf_b (pf_len (m.fr_len) (pf_varB 0))) (pf_b (pf_gint rfl (m.in_MOST_TYPES)))))
      (ps_1 (pq_raise rfl (takes_of rfl rfl rfl rfl) m.ex_BadType (init_ok Ii isc) (hr.mono (by decide)) bI rfl m.gl_BadType (pf_b (pf_neg (pf_b (pf_int))))))
      (ps_nil))
      (ps_seq (pq_for (passes_of rfl) rfl (pf_enumF rfl rfl (m.fr_enumerate) (pf_var 0)) (pf_gtup rfl rfl (pf_gcons (pf_gname 2 sc_check_rule.nd rfl (by first | exact Or.inl rfl | exact Or.inr rfl)) (pf_gcons (pf_gname 3 sc_check_rule.nd rfl (by first | exact Or.inl rfl | exact Or.inr rfl)) (pf_gnil))) (gsCons_len (gsCons_len (gsNil_len))))
      (ps_seq (pq_if (PW.pt (pf_or (pf_not (pf_chainT cm_le cm_le (pf_b (pf_int)) (pf_b (pf_len (m.fr_len) (pf_varB 3))) (pf_b (pf_gint rfl (m.in_MOST_ENDS))))) (pf_or1 (pf_cmpT (cm_ne rfl (u64 hr)) (pf_b (pf_len (m.fr_len) (pf_varB 3))) (pf_b (pf_len (m.fr_len) (pf_b (pf_sub1 rfl (pf_varB 0) (pf_b (pf_int))))))))))
      (ps_1 (pq_raise rfl (takes_of rfl rfl rfl rfl) m.ex_BadType (init_ok Ii isc) (hr.mono (by decide)) bI rfl m.gl_BadType (pf_varB 2)))
      (ps_nil))
      (ps_1 (pq_if (pf_not (pf_tv (pf_b (pf_all rfl (m.fr_all) (pf_b (pf_n (pf_lc (own := [("worth", 5)]) rfl sc_check_rule.nd (pf_iB rfl (pf_varB 3)) (blkOk_by (by kernel_rfl)) (fun _ _ _ _ _ => pf_gname 5 sc_check_rule.nd rfl (by first | exact Or.inl rfl | exact Or.inr rfl)) (fun _ _ _ _ _ => pf_tyes) (fun _ _ _ _ _ => pf_chainV cm_le cm_le (pf_b (pf_int)) (pf_varB 5) (pf_b (pf_gint rfl (m.in_MOST_WORTH)))))))))))
      (ps_1 (pq_raise rfl (takes_of rfl rfl rfl rfl) m.ex_BadType (init_ok Ii isc) (hr.mono (by decide)) bI rfl m.gl_BadType (pf_varB 2)))
      (ps_nil)))))
      (ps_seq (pq_for (passes_of rfl) rfl (pf_enumF rfl rfl (m.fr_enumerate) (pf_slF rfl (pf_varB 1) (pf_pnone) (pf_psome (pf_b (pf_len (m.fr_len) (pf_varB 0)))))) (pf_gtup rfl rfl (pf_gcons (pf_gname 2 sc_check_rule.nd rfl (by first | exact Or.inl rfl | exact Or.inr rfl)) (pf_gcons (pf_gname 4 sc_check_rule.nd rfl (by first | exact Or.inl rfl | exact Or.inr rfl)) (pf_gnil))) (gsCons_len (gsCons_len (gsNil_len))))
      (ps_1 (pq_if (pf_not (pf_chainT cm_le cm_lt (pf_b (pf_int)) (pf_varB 4) (pf_b (pf_len (m.fr_len) (pf_b (pf_sub1 rfl (pf_varB 0) (pf_b (pf_int))))))))
      (ps_1 (pq_raise rfl (takes_of rfl rfl rfl rfl) m.ex_BadEnd (init_ok Ii isc) (hr.mono (by decide)) bI rfl m.gl_BadEnd (pf_varB 2)))
      (ps_nil))))
      (ps_1 (pq_if (pf_cmpT (cm_ne rfl (u64 hr)) (pf_b (pf_len (m.fr_len) (pf_varB 1))) (pf_b (pf_len (m.fr_len) (pf_varB 0))))
      (ps_1 (pq_raise rfl (takes_of rfl rfl rfl rfl) m.ex_BadEnd (init_ok Ii isc) (hr.mono (by decide)) bI rfl m.gl_BadEnd (pf_b (pf_len (m.fr_len) (pf_varB 0)))))
      (ps_nil)))))
def m_likes_more : List PyData → Res PyData := mDef 4 0 (
 sRet (e2 subD (e2 ixD (e2 ixD (eVarB 0) (eVarB 2)) (e2 ixD (eVarB 1) (eVarB 3))) (e2 ixD (e2 ixD (eVarB 0) (eVarB 2)) (e2 ixD (eVarB 1) (eVarB 2)))))
theorem sc_likes_more : FnScope ["types", "chosen", "one", "two"] ["types", "chosen", "one", "two"] (defScope st_likes_more) := ⟨rfl, rfl, rfl, by decide +kernel, rfl, by decide +kernel, by decide +kernel⟩
theorem ok_likes_more {w : World} {K : PySem.W.Frag} {mg : Str → Option Value} {base : Heap} (m : M K mg) {fd : FuncData} (F : FnP K "likes_more" st_likes_more (He.ga K "likes_more") fd) : FnOk PP w K mg base (L2.CX PP w) 1 (He.ga K "likes_more") fd ["types", "chosen", "one", "two"] (spOf K mg 4 m_likes_more) := by
  exact fnD_ok F sc_likes_more rfl rfl (by decide) fun cdv A outer s H E hr =>
   ps_1 (pq_ret (pf_sub (pf_b (pf_sub1 rfl (pf_b (pf_sub1 rfl (pf_varB 0) (pf_varB 2))) (pf_b (pf_sub1 rfl (pf_varB 1) (pf_varB 3))))) (pf_b (pf_sub1 rfl (pf_b (pf_sub1 rfl (pf_varB 0) (pf_varB 2))) (pf_b (pf_sub1 rfl (pf_varB 1) (pf_varB 2)))))))
def m_does_keep : List PyData → Res PyData := mDef 3 2 (
 sSeq (sFor (e1 rg1 (eCons (e1 lenD (eCons (eVarB 0) eNil)) (eNil))) (gSet 3)
      (sFor (e1 rg1 (eCons (e1 lenD (eCons (eVarB 0) eNil)) (eNil))) (gSet 4)
      (sIf (eTb (e2 gtD (eCall m_likes_more (eCons (eVar 0) (eCons (eVar 1) (eCons (eVar 3) (eCons (eVar 4) (eNil)))))) (e2 subD (e2 ixD (eVarB 2) (eVarB 4)) (e2 ixD (eVarB 2) (eVarB 3)))))
      (sRet (eC (.bool false)))
      (sPass))))
      (sRet (eC (.bool true))))
theorem sc_does_keep : FnScope ["types", "chosen", "paid", "one", "two"] ["types", "chosen", "paid"] (defScope st_does_keep) := ⟨rfl, rfl, rfl, by decide +kernel, rfl, by decide +kernel, by decide +kernel⟩
theorem ok_does_keep {w : World} {K : PySem.W.Frag} {mg : Str → Option Value} {base : Heap} (m : M K mg) {fd : FuncData} (F : FnP K "does_keep" st_does_keep (He.ga K "does_keep") fd) : FnOk PP w K mg base (L2.CX PP w) 2 (He.ga K "does_keep") fd ["types", "chosen", "paid"] (spOf K mg 3 m_does_keep) := by
  obtain ⟨fd_likes_more, F_likes_more⟩ := m.fn_likes_more
  have k_likes_more := ok_likes_more (w := w) (base := base) m F_likes_more
  have b_likes_more : Binds K fd_likes_more ["types", "chosen", "one", "two"] [] := FunD.bindsN (ps := ["types", "chosen", "one", "two"]) F_likes_more fun _ _ _ _ _ _ us hl => match us, hl with | [_, _, _, _], _ => rfl
  exact fnD_ok F sc_does_keep rfl rfl (by decide) fun cdv A outer s H E hr =>
   ps_seq (pq_for (passes_of rfl) rfl (pf_range1 rfl (m.fr_range) (pf_consB (pf_b (pf_len (m.fr_len) (pf_varB 0))) (pf_nilB))) (pf_gname 3 sc_does_keep.nd rfl (by first | exact Or.inl rfl | exact Or.inr rfl))
      (ps_1 (pq_for (passes_of rfl) rfl (pf_range1 rfl (m.fr_range) (pf_consB (pf_b (pf_len (m.fr_len) (pf_varB 0))) (pf_nilB))) (pf_gname 4 sc_does_keep.nd rfl (by first | exact Or.inl rfl | exact Or.inr rfl))
      (ps_1 (pq_if (pf_cmpT cm_gt (pf_b (pf_call k_likes_more (hr.mono (by decide)) rfl m.gl_likes_more F_likes_more.kp b_likes_more (takes_of rfl rfl rfl rfl) (pf_cons (pf_var 0) (pf_cons (pf_var 1) (pf_cons (pf_var 3) (pf_cons (pf_var 4) (pf_nil))))) (len_cons (len_cons (len_cons (len_cons (len_nil))))))) (pf_b (pf_sub (pf_b (pf_sub1 rfl (pf_varB 2) (pf_varB 4))) (pf_b (pf_sub1 rfl (pf_varB 2) (pf_varB 3))))))
      (ps_1 (pq_ret (pf_bl)))
      (ps_nil))))))
      (ps_1 (pq_ret (pf_bl)))
def m_keep_truth : List PyData → Res PyData := mDef 3 0 (
 sSeq (sExpr (eCall m_check_rule (eCons (eVar 0) (eCons (eVar 1) (eNil)))))
      (sSeq (sIf (eTb (e2 neD (e1 lenD (eCons (eVarB 2) eNil)) (e1 lenD (eCons (eVarB 0) eNil))))
      (sRaise "BadPaid" (eC (.int 0)))
      (sPass))
      (sRet (eCall m_does_keep (eCons (eVar 0) (eCons (eVar 1) (eCons (eVar 2) (eNil))))))))
theorem sc_keep_truth : FnScope ["types", "chosen", "paid"] ["types", "chosen", "paid"] (defScope st_keep_truth) := ⟨rfl, rfl, rfl, by decide +kernel, rfl, by decide +kernel, by decide +kernel⟩
theorem ok_keep_truth {w : World} {K : PySem.W.Frag} {mg : Str → Option Value} {base : Heap} (m : M K mg) {fd : FuncData} (F : FnP K "keep_truth" st_keep_truth (He.ga K "keep_truth") fd) : FnOk PP w K mg base (L2.CX PP w) 4 (He.ga K "keep_truth") fd ["types", "chosen", "paid"] (spOf K mg 3 m_keep_truth) := by
  obtain ⟨fd_check_rule, F_check_rule⟩ := m.fn_check_rule
  have k_check_rule := ok_check_rule (w := w) (base := base) m F_check_rule
  have b_check_rule : Binds K fd_check_rule ["types", "chosen"] [] := FunD.bindsN (ps := ["types", "chosen"]) F_check_rule fun _ _ _ _ _ _ us hl => match us, hl with | [_, _], _ => rfl
  obtain ⟨fd_does_keep, F_does_keep⟩ := m.fn_does_keep
  have k_does_keep := ok_does_keep (w := w) (base := base) m F_does_keep
  have b_does_keep : Binds K fd_does_keep ["types", "chosen", "paid"] [] := FunD.bindsN (ps := ["types", "chosen", "paid"]) F_does_keep fun _ _ _ _ _ _ us hl => match us, hl with | [_, _, _], _ => rfl
  obtain ⟨fdI, Ii, bI⟩ := m.init
  exact fnD_ok F sc_keep_truth rfl rfl (by decide) fun cdv A outer s H E hr =>
   ps_seq (pq_expr (pf_b (pf_call k_check_rule (hr.mono (by decide)) rfl m.gl_check_rule F_check_rule.kp b_check_rule (takes_of rfl rfl rfl rfl) (pf_cons (pf_var 0) (pf_cons (pf_var 1) (pf_nil))) (len_cons (len_cons (len_nil))))))
      (ps_seq (pq_if (pf_cmpT (cm_ne rfl (u64 hr)) (pf_b (pf_len (m.fr_len) (pf_varB 2))) (pf_b (pf_len (m.fr_len) (pf_varB 0))))
      (ps_1 (pq_raise rfl (takes_of rfl rfl rfl rfl) m.ex_BadPaid (init_ok Ii isc) (hr.mono (by decide)) bI rfl m.gl_BadPaid (pf_b (pf_int))))
      (ps_nil))
      (ps_1 (pq_ret (pf_call k_does_keep (hr.mono (by decide)) rfl m.gl_does_keep F_does_keep.kp b_does_keep (takes_of rfl rfl rfl rfl) (pf_cons (pf_var 0) (pf_cons (pf_var 1) (pf_cons (pf_var 2) (pf_nil)))) (len_cons (len_cons (len_cons (len_nil))))))))
def m_sum_round : List PyData → Res PyData := mDef 3 1 (
 sRet (e1 sumD (eCons (e1 listD (eComp [3] (e1 rg1 (eCons (e1 lenD (eCons (eVarB 2) eNil)) (eNil))) (gSet 3) (eTrue) (eCall m_likes_more (eCons (eVar 0) (eCons (eVar 1) (eCons (e2 ixD (eVarB 2) (e2 subD (eVarB 3) (eC (.int 1)))) (eCons (e2 ixD (eVarB 2) (eVarB 3)) (eNil)))))))) eNil)))
theorem sc_sum_round : FnScope ["types", "chosen", "row", "k"] ["types", "chosen", "row"] (defScope st_sum_round) := ⟨rfl, rfl, rfl, by decide +kernel, rfl, by decide +kernel, by decide +kernel⟩
theorem ok_sum_round {w : World} {K : PySem.W.Frag} {mg : Str → Option Value} {base : Heap} (m : M K mg) {fd : FuncData} (F : FnP K "sum_round" st_sum_round (He.ga K "sum_round") fd) : FnOk PP w K mg base (L2.CX PP w) 2 (He.ga K "sum_round") fd ["types", "chosen", "row"] (spOf K mg 3 m_sum_round) := by
  obtain ⟨fd_likes_more, F_likes_more⟩ := m.fn_likes_more
  have k_likes_more := ok_likes_more (w := w) (base := base) m F_likes_more
  have b_likes_more : Binds K fd_likes_more ["types", "chosen", "one", "two"] [] := FunD.bindsN (ps := ["types", "chosen", "one", "two"]) F_likes_more fun _ _ _ _ _ _ us hl => match us, hl with | [_, _, _, _], _ => rfl
  exact fnD_ok F sc_sum_round rfl rfl (by decide) fun cdv A outer s H E hr =>
   ps_1 (pq_ret (pf_sum rfl (m.fr_sum) (pf_b (pf_n (pf_lc (own := [("k", 3)]) rfl sc_sum_round.nd (pf_range1 rfl (m.fr_range) (pf_consB (pf_b (pf_len (m.fr_len) (pf_varB 2))) (pf_nilB))) (blkOk_by (by kernel_rfl)) (fun _ _ _ _ _ => pf_gname 3 sc_sum_round.nd rfl (by first | exact Or.inl rfl | exact Or.inr rfl)) (fun _ _ _ _ _ => pf_tyes) (fun _ _ _ _ _ => pf_call k_likes_more (hr.mono (by decide)) rfl m.gl_likes_more F_likes_more.kp b_likes_more Pf.takes0 (pf_cons (pf_var 0) (pf_cons (pf_var 1) (pf_cons (pf_sub1 rfl (pf_varB 2) (pf_b (pf_sub (pf_varB 3) (pf_b (pf_int))))) (pf_cons (pf_sub1 rfl (pf_varB 2) (pf_varB 3)) (pf_nil))))) (len_cons (len_cons (len_cons (len_cons (len_nil)))))))))))
def m_gain_of_round : List PyData → Res PyData := mDef 3 0 (
 sSeq (sExpr (eCall m_check_rule (eCons (eVar 0) (eCons (eVar 1) (eNil)))))
      (sRet (eCall m_sum_round (eCons (eVar 0) (eCons (eVar 1) (eCons (eVar 2) (eNil)))))))
theorem sc_gain_of_round : FnScope ["types", "chosen", "row"] ["types", "chosen", "row"] (defScope st_gain_of_round) := ⟨rfl, rfl, rfl, by decide +kernel, rfl, by decide +kernel, by decide +kernel⟩
theorem ok_gain_of_round {w : World} {K : PySem.W.Frag} {mg : Str → Option Value} {base : Heap} (m : M K mg) {fd : FuncData} (F : FnP K "gain_of_round" st_gain_of_round (He.ga K "gain_of_round") fd) : FnOk PP w K mg base (L2.CX PP w) 4 (He.ga K "gain_of_round") fd ["types", "chosen", "row"] (spOf K mg 3 m_gain_of_round) := by
  obtain ⟨fd_check_rule, F_check_rule⟩ := m.fn_check_rule
  have k_check_rule := ok_check_rule (w := w) (base := base) m F_check_rule
  have b_check_rule : Binds K fd_check_rule ["types", "chosen"] [] := FunD.bindsN (ps := ["types", "chosen"]) F_check_rule fun _ _ _ _ _ _ us hl => match us, hl with | [_, _], _ => rfl
  obtain ⟨fd_sum_round, F_sum_round⟩ := m.fn_sum_round
  have k_sum_round := ok_sum_round (w := w) (base := base) m F_sum_round
  have b_sum_round : Binds K fd_sum_round ["types", "chosen", "row"] [] := FunD.bindsN (ps := ["types", "chosen", "row"]) F_sum_round fun _ _ _ _ _ _ us hl => match us, hl with | [_, _, _], _ => rfl
  exact fnD_ok F sc_gain_of_round rfl rfl (by decide) fun cdv A outer s H E hr =>
   ps_seq (pq_expr (pf_b (pf_call k_check_rule (hr.mono (by decide)) rfl m.gl_check_rule F_check_rule.kp b_check_rule (takes_of rfl rfl rfl rfl) (pf_cons (pf_var 0) (pf_cons (pf_var 1) (pf_nil))) (len_cons (len_cons (len_nil))))))
      (ps_1 (pq_ret (pf_call k_sum_round (hr.mono (by decide)) rfl m.gl_sum_round F_sum_round.kp b_sum_round (takes_of rfl rfl rfl rfl) (pf_cons (pf_var 0) (pf_cons (pf_var 1) (pf_cons (pf_var 2) (pf_nil)))) (len_cons (len_cons (len_cons (len_nil)))))))
def m_longer : List PyData → Res PyData := mDef 2 2 (
 sRet (e1 listD (eComp2 [2, 3] (e1 itL (eVarB 0)) (gSet 2) (eTrue) (e1 rg2 (eCons (e2 addD (e2 ixD (eVarB 2) (eC (.int 0))) (eC (.int 1))) (eCons (eVarB 1) (eNil)))) [3] (gSet 3) (eTb (e2 ninD (eVarB 3) (eVarB 2))) (e1 listD (e1 lenOk (eStar (eVarB 2) (eCons (eVar 3) (eNil))))))))
theorem sc_longer : FnScope ["rows", "many", "row", "k"] ["rows", "many"] (defScope st_longer) := ⟨rfl, rfl, rfl, by decide +kernel, rfl, by decide +kernel, by decide +kernel⟩
theorem ok_longer {w : World} {K : PySem.W.Frag} {mg : Str → Option Value} {base : Heap} (m : M K mg) {fd : FuncData} (F : FnP K "longer" st_longer (He.ga K "longer") fd) : FnOk PP w K mg base (L2.CX PP w) 1 (He.ga K "longer") fd ["rows", "many"] (spOf K mg 2 m_longer) := by
  exact fnD_ok F sc_longer rfl rfl (by decide) fun cdv A outer s H E hr =>
   ps_1 (pq_ret (pf_n (pf_lc2 (own := [("row", 2), ("k", 3)]) (own1 := [3]) rfl sc_longer.nd (pf_iB rfl (pf_varB 0)) (blkOk_by (by kernel_rfl)) (by decide) (fun _ _ _ _ _ => pf_gname 2 sc_longer.nd rfl (by first | exact Or.inl rfl | exact Or.inr rfl)) (fun _ _ _ _ _ => pf_tyes) (fun _ _ _ _ _ => pf_range2 rfl (m.fr_range) (pf_consB (pf_b (pf_add rfl (pf_b (pf_sub1 rfl (pf_varB 2) (pf_b (pf_int)))) (pf_b (pf_int)))) (pf_consB (pf_varB 1) (pf_nilB)))) (fun _ _ _ _ _ => pf_gname 3 sc_longer.nd rfl (by first | exact Or.inl rfl | exact Or.inr rfl)) (fun _ _ _ _ _ => pf_tone (pf_cmpT (cm_nin rfl (u66 hr)) (pf_varB 3) (pf_varB 2))) (fun _ _ _ _ _ => pf_n (pf_lstV (pf_star (pf_varB 2) (pf_cons (pf_var 3) (pf_nil))))))))
def m_round_of_gains : List PyData → Res PyData := mDef 2 4 (
 sSeq (sExpr (eCall m_check_rule (eCons (eVar 0) (eCons (eVar 1) (eNil)))))
      (sSeq (sSet 2 (e1 listD (eComp [4] (e1 rg1 (eCons (e1 lenD (eCons (eVarB 0) eNil)) (eNil))) (gSet 4) (eTrue) (e1 listD (eCons (eVar 4) (eNil))))))
      (sSeq (sWhile 100000 (eTb (e2 gtD (e1 lenD (eCons (eVarB 2) eNil)) (eC (.int 0))))
      (sSeq (sSet 2 (eCall m_longer (eCons (eVar 2) (eCons (e1 lenD (eCons (eVarB 0) eNil)) (eNil)))))
      (sSeq (sSet 3 (e1 listD (eComp [5] (e1 itL (eVarB 2)) (gSet 5) (eTb (e2 gtD (eCall m_sum_round (eCons (eVar 0) (eCons (eVar 1) (eCons (eVar 5) (eNil))))) (eC (.int 0)))) (eVar 5))))
      (sIf (eTb (e2 gtD (e1 lenD (eCons (eVarB 3) eNil)) (eC (.int 0))))
      (sRet (e1 minTD (eCons (eVarB 3) eNil)))
      (sPass)))))
      (sRet (eC .none)))))
theorem sc_round_of_gains : FnScope ["types", "chosen", "rows", "good", "k", "row"] ["types", "chosen"] (defScope st_round_of_gains) := ⟨rfl, rfl, rfl, by decide +kernel, rfl, by decide +kernel, by decide +kernel⟩
theorem ok_round_of_gains {w : World} {K : PySem.W.Frag} {mg : Str → Option Value} {base : Heap} (m : M K mg) {fd : FuncData} (F : FnP K "round_of_gains" st_round_of_gains (He.ga K "round_of_gains") fd) : FnOk PP w K mg base (L2.CX PP w) 4 (He.ga K "round_of_gains") fd ["types", "chosen"] (spOf K mg 2 m_round_of_gains) := by
  obtain ⟨fd_check_rule, F_check_rule⟩ := m.fn_check_rule
  have k_check_rule := ok_check_rule (w := w) (base := base) m F_check_rule
  have b_check_rule : Binds K fd_check_rule ["types", "chosen"] [] := FunD.bindsN (ps := ["types", "chosen"]) F_check_rule fun _ _ _ _ _ _ us hl => match us, hl with | [_, _], _ => rfl
  obtain ⟨fd_longer, F_longer⟩ := m.fn_longer
  have k_longer := ok_longer (w := w) (base := base) m F_longer
  have b_longer : Binds K fd_longer ["rows", "many"] [] := FunD.bindsN (ps := ["rows", "many"]) F_longer fun _ _ _ _ _ _ us hl => match us, hl with | [_, _], _ => rfl
  obtain ⟨fd_sum_round, F_sum_round⟩ := m.fn_sum_round
  have k_sum_round := ok_sum_round (w := w) (base := base) m F_sum_round
  have b_sum_round : Binds K fd_sum_round ["types", "chosen", "row"] [] := FunD.bindsN (ps := ["types", "chosen", "row"]) F_sum_round fun _ _ _ _ _ _ us hl => match us, hl with | [_, _, _], _ => rfl
  exact fnD_ok F sc_round_of_gains rfl rfl (by decide) fun cdv A outer s H E hr =>
   ps_seq (pq_expr (pf_b (pf_call k_check_rule (hr.mono (by decide)) rfl m.gl_check_rule F_check_rule.kp b_check_rule (takes_of rfl rfl rfl rfl) (pf_cons (pf_var 0) (pf_cons (pf_var 1) (pf_nil))) (len_cons (len_cons (len_nil))))))
      (ps_seq (pq_setLc (own := false) (i := 2) (ow := [("k", 4)]) rfl sc_round_of_gains.nd rfl rfl (sw_true rfl rfl rfl (by kernel_rfl)) (pf_range1 rfl (m.fr_range) (pf_consB (pf_b (pf_len (m.fr_len) (pf_varB 0))) (pf_nilB))) (blkOk_by (by kernel_rfl)) (fun _ _ _ _ _ => pf_gname 4 sc_round_of_gains.nd rfl (by first | exact Or.inl rfl | exact Or.inr rfl)) (fun _ _ _ _ _ => pf_tyes) (fun _ _ _ _ _ => pf_n (pf_lst (pf_cons (pf_var 4) (pf_nil)) (by decide) (len_cons (len_nil)))))
      (ps_seq (pq_while 100000 (passes_of rfl) (pf_cmpT cm_gt (pf_b (pf_len (m.fr_len) (pf_varB 2))) (pf_b (pf_int)))
      (ps_seq (pq_set (i := 2) sc_round_of_gains.nd rfl (by first | exact Or.inl rfl | exact Or.inr rfl) (pf_call k_longer (hr.mono (by decide)) rfl m.gl_longer F_longer.kp b_longer (takes_of rfl rfl rfl rfl) (pf_cons (pf_var 2) (pf_cons (pf_len (m.fr_len) (pf_varB 0)) (pf_nil))) (len_cons (len_cons (len_nil)))))
      (ps_seq (pq_setLc (own := false) (i := 3) (ow := [("row", 5)]) rfl sc_round_of_gains.nd rfl rfl (sw_true rfl rfl rfl (by kernel_rfl)) (pf_iB rfl (pf_varB 2)) (blkOk_by (by kernel_rfl)) (fun _ _ _ _ _ => pf_gname 5 sc_round_of_gains.nd rfl (by first | exact Or.inl rfl | exact Or.inr rfl)) (fun _ _ _ _ _ => pf_tone (pf_cmpT cm_gt (pf_b (pf_call k_sum_round (hr.mono (by decide)) rfl m.gl_sum_round F_sum_round.kp b_sum_round Pf.takes0 (pf_cons (pf_var 0) (pf_cons (pf_var 1) (pf_cons (pf_var 5) (pf_nil)))) (len_cons (len_cons (len_cons (len_nil)))))) (pf_b (pf_int)))) (fun _ _ _ _ _ => pf_var 5))
      (ps_1 (pq_if (pf_cmpT cm_gt (pf_b (pf_len (m.fr_len) (pf_varB 3))) (pf_b (pf_int)))
      (ps_1 (pq_ret (pf_minT rfl (u66 hr) (m.fr_min) (pf_varB 3))))
      (ps_nil))))))
      (ps_1 (pq_ret (pf_non)))))
def m_greatest_payments : List PyData → Res PyData := mDef 2 6 (
 sSeq (sExpr (eCall m_check_rule (eCons (eVar 0) (eCons (eVar 1) (eNil)))))
      (sSeq (sSet 2 (e1 lenD (eCons (eVarB 0) eNil)))
      (sSeq (sSetN 3 (eComp [7] (e1 rg1 (eCons (eVarB 2) (eNil))) (gSet 7) (eTrue) (e1 negD (eCall m_likes_more (eCons (eVar 0) (eCons (eVar 1) (eCons (eVar 7) (eCons (eC (.int 0)) (eNil)))))))))
      (sSeq (sFor (e1 rg1 (eCons (eVarB 2) (eNil))) (gSet 4)
      (sFor (e1 rg1 (eCons (eVarB 2) (eNil))) (gSet 5)
      (sFor (e1 rg1 (eCons (eVarB 2) (eNil))) (gSet 6)
      (sPut 3 (eVarB 6) (e1 min2D (eCons (e2 ixD (eVarB 3) (eVarB 6)) (eCons (e2 subD (e2 ixD (eVarB 3) (eVarB 5)) (eCall m_likes_more (eCons (eVar 0) (eCons (eVar 1) (eCons (eVar 6) (eCons (eVar 5) (eNil))))))) eNil)))))))
      (sFrz [3] (sRet (eIf (eAnd (eTb (eCall m_does_keep (eCons (eVar 0) (eCons (eVar 1) (eCons (eVar 3) (eNil)))))) (eTb (e2 eqD (e2 ixD (eVarB 3) (eC (.int 0))) (eC (.int 0))))) (eVar 3) (eC .none))))))))
theorem sc_greatest_payments : FnScope ["types", "chosen", "many", "found", "_", "one", "two", "k"] ["types", "chosen"] (defScope st_greatest_payments) := ⟨rfl, rfl, rfl, by decide +kernel, rfl, by decide +kernel, by decide +kernel⟩
theorem ok_greatest_payments {w : World} {K : PySem.W.Frag} {mg : Str → Option Value} {base : Heap} (m : M K mg) {fd : FuncData} (F : FnP K "greatest_payments" st_greatest_payments (He.ga K "greatest_payments") fd) : FnOk PP w K mg base (L2.CX PP w) 4 (He.ga K "greatest_payments") fd ["types", "chosen"] (spOf K mg 2 m_greatest_payments) := by
  obtain ⟨fd_check_rule, F_check_rule⟩ := m.fn_check_rule
  have k_check_rule := ok_check_rule (w := w) (base := base) m F_check_rule
  have b_check_rule : Binds K fd_check_rule ["types", "chosen"] [] := FunD.bindsN (ps := ["types", "chosen"]) F_check_rule fun _ _ _ _ _ _ us hl => match us, hl with | [_, _], _ => rfl
  obtain ⟨fd_likes_more, F_likes_more⟩ := m.fn_likes_more
  have k_likes_more := ok_likes_more (w := w) (base := base) m F_likes_more
  have b_likes_more : Binds K fd_likes_more ["types", "chosen", "one", "two"] [] := FunD.bindsN (ps := ["types", "chosen", "one", "two"]) F_likes_more fun _ _ _ _ _ _ us hl => match us, hl with | [_, _, _, _], _ => rfl
  obtain ⟨fd_does_keep, F_does_keep⟩ := m.fn_does_keep
  have k_does_keep := ok_does_keep (w := w) (base := base) m F_does_keep
  have b_does_keep : Binds K fd_does_keep ["types", "chosen", "paid"] [] := FunD.bindsN (ps := ["types", "chosen", "paid"]) F_does_keep fun _ _ _ _ _ _ us hl => match us, hl with | [_, _, _], _ => rfl
  exact fnD_ok F sc_greatest_payments rfl rfl (by decide) fun cdv A outer s H E hr =>
   ps_seq (pq_expr (pf_b (pf_call k_check_rule (hr.mono (by decide)) rfl m.gl_check_rule F_check_rule.kp b_check_rule (takes_of rfl rfl rfl rfl) (pf_cons (pf_var 0) (pf_cons (pf_var 1) (pf_nil))) (len_cons (len_cons (len_nil))))))
      (ps_seq (pq_set (i := 2) sc_greatest_payments.nd rfl (by first | exact Or.inl rfl | exact Or.inr rfl) (pf_len (m.fr_len) (pf_varB 0)))
      (ps_seq (pq_setLc (own := true) (i := 3) (ow := [("k", 7)]) rfl sc_greatest_payments.nd rfl rfl (sw_true rfl rfl rfl (by kernel_rfl)) (pf_range1 rfl (m.fr_range) (pf_consB (pf_varB 2) (pf_nilB))) (blkOk_by (by kernel_rfl)) (fun _ _ _ _ _ => pf_gname 7 sc_greatest_payments.nd rfl (by first | exact Or.inl rfl | exact Or.inr rfl)) (fun _ _ _ _ _ => pf_tyes) (fun _ _ _ _ _ => pf_neg (pf_b (pf_call k_likes_more (hr.mono (by decide)) rfl m.gl_likes_more F_likes_more.kp b_likes_more Pf.takes0 (pf_cons (pf_var 0) (pf_cons (pf_var 1) (pf_cons (pf_var 7) (pf_cons (pf_int) (pf_nil))))) (len_cons (len_cons (len_cons (len_cons (len_nil)))))))))
      (ps_seq (pq_for (passes_of rfl) rfl (pf_range1 rfl (m.fr_range) (pf_consB (pf_varB 2) (pf_nilB))) (pf_gname 4 sc_greatest_payments.nd rfl (by first | exact Or.inl rfl | exact Or.inr rfl))
      (ps_1 (pq_for (passes_of rfl) rfl (pf_range1 rfl (m.fr_range) (pf_consB (pf_varB 2) (pf_nilB))) (pf_gname 5 sc_greatest_payments.nd rfl (by first | exact Or.inl rfl | exact Or.inr rfl))
      (ps_1 (pq_for (passes_of rfl) rfl (pf_range1 rfl (m.fr_range) (pf_consB (pf_varB 2) (pf_nilB))) (pf_gname 6 sc_greatest_payments.nd rfl (by first | exact Or.inl rfl | exact Or.inr rfl))
      (ps_1 (pq_put (i := 3) rfl (by first | exact Or.inl rfl | exact Or.inr (Or.inl rfl) | exact Or.inr (Or.inr rfl)) (pf_varB 6) (pf_min2 rfl (m.fr_min) (pf_b (pf_sub1 rfl (pf_varB 3) (pf_varB 6))) (pf_b (pf_sub (pf_b (pf_sub1 rfl (pf_varB 3) (pf_varB 5))) (pf_b (pf_call k_likes_more (hr.mono (by decide)) rfl m.gl_likes_more F_likes_more.kp b_likes_more (takes_of rfl rfl rfl rfl) (pf_cons (pf_var 0) (pf_cons (pf_var 1) (pf_cons (pf_var 6) (pf_cons (pf_var 5) (pf_nil))))) (len_cons (len_cons (len_cons (len_cons (len_nil)))))))))) (fun ho hi => pg_sub ho hi set_list))))))))
      (ps_1 (pq_frz [3] (pq_ret (pf_ifE (.inl rfl) (PW.pt (pf_and (pf_tv (pf_b (pf_call k_does_keep (hr.mono (by decide)) rfl m.gl_does_keep F_does_keep.kp b_does_keep (takes_of rfl rfl rfl rfl) (pf_cons (pf_var 0) (pf_cons (pf_var 1) (pf_cons (pf_var 3) (pf_nil)))) (len_cons (len_cons (len_cons (len_nil))))))) (pf_and1 (pf_cmpT (cm_eq rfl (u64 hr)) (pf_b (pf_sub1 rfl (pf_varB 3) (pf_b (pf_int)))) (pf_b (pf_int)))))) (pf_var 3) (pf_non))))))))
def m__law_draws : List PyData → Res PyData := mDef 1 5 (
 sSeq (sSetN 1 (eNil))
      (sSeq (sFor (e1 rg1 (eCons (e1 min2D (eCons (eC (.int 63)) (eCons (e1 lenD (eCons (eVarB 0) eNil)) eNil))) (eNil))) (gSet 2)
      (sSeq (sSet 3 (e1 absD (eCons (e2 ixD (eVarB 0) (eVarB 2)) eNil)))
      (sIf (eTb (e2 geD (eVarB 3) (e2 powD (eC (.int 10)) (eC (.int 18)))))
      (sFor (e1 rg1 (eCons (eC (.int 60)) (eNil))) (gSet 4)
      (sIf (eTb (e2 gtD (eVarB 3) (eC (.int 0))))
      (sSeq (sApp 1 (e2 modD (e1 intD (eCons (eVarB 3) eNil)) (eC (.int 65536))))
      (sSet 3 (e2 divD (eVarB 3) (eC (.int 65536)))))
      (sPass)))
      (sSeq (sSet 5 (e2 modD (e1 intD (eCons (e2 addD (e2 mulD (eVarB 3) (eC (.int 48271))) (e2 mulD (e2 addD (eVarB 2) (eC (.int 1))) (eC (.int 69621)))) eNil)) (eC (.int 2147483647))))
      (sSeq (sSet 5 (e2 modD (e1 intD (eCons (e2 addD (e2 addD (e2 mulD (eVarB 5) (eC (.int 16807))) (e2 mulD (eC (.int 11)) (eVarB 2))) (eC (.int 5))) eNil)) (eC (.int 2147483629))))
      (sSeq (sApp 1 (e2 modD (e1 intD (eCons (eVarB 5) eNil)) (eC (.int 65536))))
      (sApp 1 (e2 modD (e1 intD (eCons (e2 divD (eVarB 5) (eC (.int 65536))) eNil)) (eC (.int 32768))))))))))
      (sFrz [1] (sRet (eVar 1)))))
theorem sc__law_draws : FnScope ["script", "draws", "k", "rest", "turn", "stirred"] ["script"] (defScope st__law_draws) := ⟨rfl, rfl, rfl, by decide +kernel, rfl, by decide +kernel, by decide +kernel⟩
theorem ok__law_draws {w : World} {K : PySem.W.Frag} {mg : Str → Option Value} {base : Heap} (m : M K mg) {fd : FuncData} (F : FnP K "_law_draws" st__law_draws (He.ga K "_law_draws") fd) : FnOk PP w K mg base (L2.CX PP w) 1 (He.ga K "_law_draws") fd ["script"] (spOf K mg 1 m__law_draws) := by
  exact fnD_ok F sc__law_draws rfl rfl (by decide) fun cdv A outer s H E hr =>
   ps_seq (pq_setN (i := 1) sc__law_draws.nd rfl (by first | exact Or.inl rfl | exact Or.inr rfl) (pf_lst (pf_nil) (by decide) (len_nil)))
      (ps_seq (pq_for (passes_of rfl) rfl (pf_range1 rfl (m.fr_range) (pf_consB (pf_b (pf_min2 rfl (m.fr_min) (pf_b (pf_int)) (pf_b (pf_len (m.fr_len) (pf_varB 0))))) (pf_nilB))) (pf_gname 2 sc__law_draws.nd rfl (by first | exact Or.inl rfl | exact Or.inr rfl))
      (ps_seq (pq_set (i := 3) sc__law_draws.nd rfl (by first | exact Or.inl rfl | exact Or.inr rfl) (pf_abs (m.fr_abs) (pf_b (pf_sub1 rfl (pf_varB 0) (pf_varB 2)))))
      (ps_1 (pq_if (pf_cmpT cm_ge (pf_varB 3) (pf_b (pf_pow (pf_b (pf_int)) (pf_b (pf_int)))))
      (ps_1 (pq_for (passes_of rfl) rfl (pf_range1 rfl (m.fr_range) (pf_consB (pf_b (pf_int)) (pf_nilB))) (pf_gname 4 sc__law_draws.nd rfl (by first | exact Or.inl rfl | exact Or.inr rfl))
      (ps_1 (pq_if (pf_cmpT cm_gt (pf_varB 3) (pf_b (pf_int)))
      (ps_seq (pq_app (i := 1) rfl (by first | exact Or.inl rfl | exact Or.inr (Or.inl rfl) | exact Or.inr (Or.inr rfl)) (pf_mod (pf_b (pf_int1 (m.fr_int) (pf_varB 3))) (pf_b (pf_int))) (fun ho ha => pe_bm PySem.F.plainAttrs_list PySem.F.slot_list_append PySem.F.type_list_append mt_append ho ha))
      (ps_1 (pq_set (i := 3) sc__law_draws.nd rfl (by first | exact Or.inl rfl | exact Or.inr rfl) (pf_div (pf_varB 3) (pf_b (pf_int))))))
      (ps_nil)))))
      (ps_seq (pq_set (i := 5) sc__law_draws.nd rfl (by first | exact Or.inl rfl | exact Or.inr rfl) (pf_mod (pf_b (pf_int1 (m.fr_int) (pf_b (pf_add rfl (pf_b (pf_mul (pf_varB 3) (pf_b (pf_int)))) (pf_b (pf_mul (pf_b (pf_add rfl (pf_varB 2) (pf_b (pf_int)))) (pf_b (pf_int)))))))) (pf_b (pf_int))))
      (ps_seq (pq_set (i := 5) sc__law_draws.nd rfl (by first | exact Or.inl rfl | exact Or.inr rfl) (pf_mod (pf_b (pf_int1 (m.fr_int) (pf_b (pf_add rfl (pf_b (pf_add rfl (pf_b (pf_mul (pf_varB 5) (pf_b (pf_int)))) (pf_b (pf_mul (pf_b (pf_int)) (pf_varB 2))))) (pf_b (pf_int)))))) (pf_b (pf_int))))
      (ps_seq (pq_app (i := 1) rfl (by first | exact Or.inl rfl | exact Or.inr (Or.inl rfl) | exact Or.inr (Or.inr rfl)) (pf_mod (pf_b (pf_int1 (m.fr_int) (pf_varB 5))) (pf_b (pf_int))) (fun ho ha => pe_bm PySem.F.plainAttrs_list PySem.F.slot_list_append PySem.F.type_list_append mt_append ho ha))
      (ps_1 (pq_app (i := 1) rfl (by first | exact Or.inl rfl | exact Or.inr (Or.inl rfl) | exact Or.inr (Or.inr rfl)) (pf_mod (pf_b (pf_int1 (m.fr_int) (pf_b (pf_div (pf_varB 5) (pf_b (pf_int)))))) (pf_b (pf_int))) (fun ho ha => pe_bm PySem.F.plainAttrs_list PySem.F.slot_list_append PySem.F.type_list_append mt_append ho ha))))))))))
      (ps_1 (pq_frz [1] (pq_ret (pf_var 1)))))
def m__law_mix : List PyData → Res PyData := mDef 3 1 (
 sSeq (sSet 3 (eC (.int 0)))
      (sSeq (sIf (eTb (e2 gtD (e1 lenD (eCons (eVarB 0) eNil)) (eC (.int 0))))
      (sSet 3 (e2 ixD (eVarB 0) (e2 modD (e1 intD (eCons (eVarB 1) eNil)) (e1 lenD (eCons (eVarB 0) eNil)))))
      (sPass))
      (sSeq (sIf (eTb (e2 ltD (eVarB 1) (e1 lenD (eCons (eVarB 0) eNil))))
      (sRet (e2 modD (e1 intD (eCons (eVarB 3) eNil)) (eVarB 2)))
      (sPass))
      (sRet (e2 modD (e1 intD (eCons (e2 divD (e1 intD (eCons (e2 addD (e2 mulD (eVarB 3) (eC (.int 7919))) (e2 mulD (eVarB 1) (eC (.int 104729)))) eNil)) (eC (.int 3))) eNil)) (eVarB 2))))))
theorem sc__law_mix : FnScope ["draws", "k", "many", "cell"] ["draws", "k", "many"] (defScope st__law_mix) := ⟨rfl, rfl, rfl, by decide +kernel, rfl, by decide +kernel, by decide +kernel⟩
theorem ok__law_mix {w : World} {K : PySem.W.Frag} {mg : Str → Option Value} {base : Heap} (m : M K mg) {fd : FuncData} (F : FnP K "_law_mix" st__law_mix (He.ga K "_law_mix") fd) : FnOk PP w K mg base (L2.CX PP w) 1 (He.ga K "_law_mix") fd ["draws", "k", "many"] (spOf K mg 3 m__law_mix) := by
  exact fnD_ok F sc__law_mix rfl rfl (by decide) fun cdv A outer s H E hr =>
   ps_seq (pq_set (i := 3) sc__law_mix.nd rfl (by first | exact Or.inl rfl | exact Or.inr rfl) (pf_int))
      (ps_seq (pq_if (pf_cmpT cm_gt (pf_b (pf_len (m.fr_len) (pf_varB 0))) (pf_b (pf_int)))
      (ps_1 (pq_set (i := 3) sc__law_mix.nd rfl (by first | exact Or.inl rfl | exact Or.inr rfl) (pf_sub1 rfl (pf_varB 0) (pf_b (pf_mod (pf_b (pf_int1 (m.fr_int) (pf_varB 1))) (pf_b (pf_len (m.fr_len) (pf_varB 0))))))))
      (ps_nil))
      (ps_seq (pq_if (pf_cmpT cm_lt (pf_varB 1) (pf_b (pf_len (m.fr_len) (pf_varB 0))))
      (ps_1 (pq_ret (pf_mod (pf_b (pf_int1 (m.fr_int) (pf_varB 3))) (pf_varB 2))))
      (ps_nil))
      (ps_1 (pq_ret (pf_mod (pf_b (pf_int1 (m.fr_int) (pf_b (pf_div (pf_b (pf_int1 (m.fr_int) (pf_b (pf_add rfl (pf_b (pf_mul (pf_varB 3) (pf_b (pf_int)))) (pf_b (pf_mul (pf_varB 1) (pf_b (pf_int)))))))) (pf_b (pf_int)))))) (pf_varB 2))))))
def m__law_rows : List PyData → Res PyData := mDef 2 5 (
 sSeq (sParM [2, 3] (mVal (e1 listD (eNil)) (mVal (e1 listD (eComp [5] (e1 itL (eVarB 1)) (gSet 5) (eTrue) (e1 listD (eCons (eVar 5) (eNil))))) (mNil))))
      (sSeq (sFor (e1 rg1 (eCons (eVarB 0) (eNil))) (gSet 4)
      (sSeq (sSet 2 (e2 addD (eVarB 2) (e1 listD (e1 sortTN (eCons (eVarB 3) eNil)))))
      (sSet 3 (e1 sumLD (eCons (e1 listD (eComp [6] (e1 itL (eVarB 3)) (gSet 6) (eTrue) (e1 listD (eComp [5] (e1 rg1 (eCons (eVarB 0) (eNil))) (gSet 5) (eTb (e2 ninD (eVarB 5) (eVarB 6))) (e2 addD (eVarB 6) (e1 listD (eCons (eVar 5) (eNil)))))))) (eCons (e1 listD (eNil)) eNil))))))
      (sRet (eVar 2))))
theorem sc__law_rows : FnScope ["many", "first", "found", "here", "turn", "one", "row"] ["many", "first"] (defScope st__law_rows) := ⟨rfl, rfl, rfl, by decide +kernel, rfl, by decide +kernel, by decide +kernel⟩
theorem ok__law_rows {w : World} {K : PySem.W.Frag} {mg : Str → Option Value} {base : Heap} (m : M K mg) {fd : FuncData} (F : FnP K "_law_rows" st__law_rows (He.ga K "_law_rows") fd) : FnOk PP w K mg base (L2.CX PP w) 1 (He.ga K "_law_rows") fd ["many", "first"] (spOf K mg 2 m__law_rows) := by
  exact fnD_ok F sc__law_rows rfl rfl (by decide) fun cdv A outer s H E hr =>
   ps_seq (pq_parM (i := 2) (j := 3) rfl sc__law_rows.nd rfl rfl (by decide) rfl rfl (pf_mval (pf_n (pf_lst (pf_nil) (by decide) (len_nil))) (pf_mval (pf_n (pf_lc (own := [("one", 5)]) rfl sc__law_rows.nd (pf_iB rfl (pf_varB 1)) (blkOk_by (by kernel_rfl)) (fun _ _ _ _ _ => pf_gname 5 sc__law_rows.nd rfl (by first | exact Or.inl rfl | exact Or.inr rfl)) (fun _ _ _ _ _ => pf_tyes) (fun _ _ _ _ _ => pf_n (pf_lst (pf_cons (pf_var 5) (pf_nil)) (by decide) (len_cons (len_nil)))))) (pf_mnil))))
      (ps_seq (pq_for (passes_of rfl) rfl (pf_range1 rfl (m.fr_range) (pf_consB (pf_varB 0) (pf_nilB))) (pf_gname 4 sc__law_rows.nd rfl (by first | exact Or.inl rfl | exact Or.inr rfl))
      (ps_seq (pq_set (i := 2) sc__law_rows.nd rfl (by first | exact Or.inl rfl | exact Or.inr rfl) (pf_add rfl (pf_varB 2) (pf_b (pf_n (pf_sortT (u66 hr) (m.fr_sorted) (pf_varB 3))))))
      (ps_1 (pq_set (i := 3) sc__law_rows.nd rfl (by first | exact Or.inl rfl | exact Or.inr rfl) (pf_sumL rfl (m.fr_sum) (pf_n (pf_lc (own := [("row", 6)]) rfl sc__law_rows.nd (pf_iB rfl (pf_varB 3)) (blkOk_by (by kernel_rfl)) (fun _ _ _ _ _ => pf_gname 6 sc__law_rows.nd rfl (by first | exact Or.inl rfl | exact Or.inr rfl)) (fun _ _ _ _ _ => pf_tyes) (fun _ _ _ _ _ => pf_n (pf_lc (own := [("one", 5)]) rfl sc__law_rows.nd (pf_range1 rfl (m.fr_range) (pf_consB (pf_varB 0) (pf_nilB))) (blkOk_by (by kernel_rfl)) (fun _ _ _ _ _ => pf_gname 5 sc__law_rows.nd rfl (by first | exact Or.inl rfl | exact Or.inr rfl)) (fun _ _ _ _ _ => pf_tone (pf_cmpT (cm_nin rfl (u66 hr)) (pf_varB 5) (pf_varB 6))) (fun _ _ _ _ _ => pf_add rfl (pf_varB 6) (pf_b (pf_n (pf_lst (pf_cons (pf_var 5) (pf_nil)) (by decide) (len_cons (len_nil)))))))))) (pf_n (pf_lst (pf_nil) (by decide) (len_nil))))))))
      (ps_1 (pq_ret (pf_var 2))))
def m__law_more : List PyData → Res PyData := mDef 4 0 (
 sRet (e2 subD (e2 ixD (e2 ixD (eVarB 0) (eVarB 2)) (e2 ixD (eVarB 1) (eVarB 3))) (e2 ixD (e2 ixD (eVarB 0) (eVarB 2)) (e2 ixD (eVarB 1) (eVarB 2)))))
theorem sc__law_more : FnScope ["types", "chosen", "one", "two"] ["types", "chosen", "one", "two"] (defScope st__law_more) := ⟨rfl, rfl, rfl, by decide +kernel, rfl, by decide +kernel, by decide +kernel⟩
theorem ok__law_more {w : World} {K : PySem.W.Frag} {mg : Str → Option Value} {base : Heap} (m : M K mg) {fd : FuncData} (F : FnP K "_law_more" st__law_more (He.ga K "_law_more") fd) : FnOk PP w K mg base (L2.CX PP w) 1 (He.ga K "_law_more") fd ["types", "chosen", "one", "two"] (spOf K mg 4 m__law_more) := by
  exact fnD_ok F sc__law_more rfl rfl (by decide) fun cdv A outer s H E hr =>
   ps_1 (pq_ret (pf_sub (pf_b (pf_sub1 rfl (pf_b (pf_sub1 rfl (pf_varB 0) (pf_varB 2))) (pf_b (pf_sub1 rfl (pf_varB 1) (pf_varB 3))))) (pf_b (pf_sub1 rfl (pf_b (pf_sub1 rfl (pf_varB 0) (pf_varB 2))) (pf_b (pf_sub1 rfl (pf_varB 1) (pf_varB 2)))))))
def m__law_gain : List PyData → Res PyData := mDef 3 1 (
 sRet (e1 sumD (eCons (e1 listD (eComp [3] (e1 rg1 (eCons (e1 lenD (eCons (eVarB 2) eNil)) (eNil))) (gSet 3) (eTrue) (eCall m__law_more (eCons (eVar 0) (eCons (eVar 1) (eCons (e2 ixD (eVarB 2) (eVarB 3)) (eCons (e2 ixD (e2 addD (eVarB 2) (eSl slT (eVarB 2) (eNone) (e1 asI (eC (.int 1))))) (e2 addD (eVarB 3) (eC (.int 1)))) (eNil)))))))) eNil)))
theorem sc__law_gain : FnScope ["types", "chosen", "row", "t"] ["types", "chosen", "row"] (defScope st__law_gain) := ⟨rfl, rfl, rfl, by decide +kernel, rfl, by decide +kernel, by decide +kernel⟩
theorem ok__law_gain {w : World} {K : PySem.W.Frag} {mg : Str → Option Value} {base : Heap} (m : M K mg) {fd : FuncData} (F : FnP K "_law_gain" st__law_gain (He.ga K "_law_gain") fd) : FnOk PP w K mg base (L2.CX PP w) 2 (He.ga K "_law_gain") fd ["types", "chosen", "row"] (spOf K mg 3 m__law_gain) := by
  obtain ⟨fd__law_more, F__law_more⟩ := m.fn__law_more
  have k__law_more := ok__law_more (w := w) (base := base) m F__law_more
  have b__law_more : Binds K fd__law_more ["types", "chosen", "one", "two"] [] := FunD.bindsN (ps := ["types", "chosen", "one", "two"]) F__law_more fun _ _ _ _ _ _ us hl => match us, hl with | [_, _, _, _], _ => rfl
  exact fnD_ok F sc__law_gain rfl rfl (by decide) fun cdv A outer s H E hr =>
   ps_1 (pq_ret (pf_sum rfl (m.fr_sum) (pf_b (pf_n (pf_lc (own := [("t", 3)]) rfl sc__law_gain.nd (pf_range1 rfl (m.fr_range) (pf_consB (pf_b (pf_len (m.fr_len) (pf_varB 2))) (pf_nilB))) (blkOk_by (by kernel_rfl)) (fun _ _ _ _ _ => pf_gname 3 sc__law_gain.nd rfl (by first | exact Or.inl rfl | exact Or.inr rfl)) (fun _ _ _ _ _ => pf_tyes) (fun _ _ _ _ _ => pf_call k__law_more (hr.mono (by decide)) rfl m.gl__law_more F__law_more.kp b__law_more Pf.takes0 (pf_cons (pf_var 0) (pf_cons (pf_var 1) (pf_cons (pf_sub1 rfl (pf_varB 2) (pf_varB 3)) (pf_cons (pf_sub1 rfl (pf_b (pf_add rfl (pf_varB 2) (pf_b (pf_slF rfl (pf_varB 2) (pf_pnone) (pf_psome (pf_b (pf_int))))))) (pf_b (pf_add rfl (pf_varB 3) (pf_b (pf_int))))) (pf_nil))))) (len_cons (len_cons (len_cons (len_cons (len_nil)))))))))))
def m__law_keeps : List PyData → Res PyData := mDef 3 3 (
 sSeq (sSet 3 (e1 lenD (eCons (eVarB 0) eNil)))
      (sRet (e2 eqD (e1 listD (eComp [4] (e1 rg1 (eCons (eVarB 3) (eNil))) (gSet 4) (eTb (e2 neD (e1 listD (eComp [5] (e1 rg1 (eCons (eVarB 3) (eNil))) (gSet 5) (eTb (e2 gtD (eCall m__law_more (eCons (eVar 0) (eCons (eVar 1) (eCons (eVar 4) (eCons (eVar 5) (eNil)))))) (e2 subD (e2 ixD (eVarB 2) (eVarB 5)) (e2 ixD (eVarB 2) (eVarB 4))))) (eVar 5))) (e1 listD (eNil)))) (eVar 4))) (e1 listD (eNil)))))
theorem sc__law_keeps : FnScope ["types", "chosen", "paid", "many", "one", "two"] ["types", "chosen", "paid"] (defScope st__law_keeps) := ⟨rfl, rfl, rfl, by decide +kernel, rfl, by decide +kernel, by decide +kernel⟩
theorem ok__law_keeps {w : World} {K : PySem.W.Frag} {mg : Str → Option Value} {base : Heap} (m : M K mg) {fd : FuncData} (F : FnP K "_law_keeps" st__law_keeps (He.ga K "_law_keeps") fd) : FnOk PP w K mg base (L2.CX PP w) 2 (He.ga K "_law_keeps") fd ["types", "chosen", "paid"] (spOf K mg 3 m__law_keeps) := by
  obtain ⟨fd__law_more, F__law_more⟩ := m.fn__law_more
  have k__law_more := ok__law_more (w := w) (base := base) m F__law_more
  have b__law_more : Binds K fd__law_more ["types", "chosen", "one", "two"] [] := FunD.bindsN (ps := ["types", "chosen", "one", "two"]) F__law_more fun _ _ _ _ _ _ us hl => match us, hl with | [_, _, _, _], _ => rfl
  exact fnD_ok F sc__law_keeps rfl rfl (by decide) fun cdv A outer s H E hr =>
   ps_seq (pq_set (i := 3) sc__law_keeps.nd rfl (by first | exact Or.inl rfl | exact Or.inr rfl) (pf_len (m.fr_len) (pf_varB 0)))
      (ps_1 (pq_ret (pf_cmpV (cm_eq rfl (u64 hr)) (pf_b (pf_n (pf_lc (own := [("one", 4)]) rfl sc__law_keeps.nd (pf_range1 rfl (m.fr_range) (pf_consB (pf_varB 3) (pf_nilB))) (blkOk_by (by kernel_rfl)) (fun _ _ _ _ _ => pf_gname 4 sc__law_keeps.nd rfl (by first | exact Or.inl rfl | exact Or.inr rfl)) (fun _ _ _ _ _ => pf_tone (pf_cmpT (cm_ne rfl (u64 hr)) (pf_b (pf_n (pf_lc (own := [("two", 5)]) rfl sc__law_keeps.nd (pf_range1 rfl (m.fr_range) (pf_consB (pf_varB 3) (pf_nilB))) (blkOk_by (by kernel_rfl)) (fun _ _ _ _ _ => pf_gname 5 sc__law_keeps.nd rfl (by first | exact Or.inl rfl | exact Or.inr rfl)) (fun _ _ _ _ _ => pf_tone (pf_cmpT cm_gt (pf_b (pf_call k__law_more (hr.mono (by decide)) rfl m.gl__law_more F__law_more.kp b__law_more Pf.takes0 (pf_cons (pf_var 0) (pf_cons (pf_var 1) (pf_cons (pf_var 4) (pf_cons (pf_var 5) (pf_nil))))) (len_cons (len_cons (len_cons (len_cons (len_nil))))))) (pf_b (pf_sub (pf_b (pf_sub1 rfl (pf_varB 2) (pf_varB 5))) (pf_b (pf_sub1 rfl (pf_varB 2) (pf_varB 4))))))) (fun _ _ _ _ _ => pf_var 5)))) (pf_b (pf_n (pf_lst (pf_nil) (by decide) (len_nil)))))) (fun _ _ _ _ _ => pf_var 4)))) (pf_b (pf_n (pf_lst (pf_nil) (by decide) (len_nil)))))))
def m__law_greatest : List PyData → Res PyData := mDef 2 5 (
 sSeq (sSetN 2 (e2 repL (e1 listD (eCons (eC (.int 0)) (eNil))) (e1 lenD (eCons (eVarB 0) eNil))))
      (sSeq (sFor (e1 rg2 (eCons (eC (.int 1)) (eCons (e1 lenD (eCons (eVarB 0) eNil)) (eNil)))) (gSet 3)
      (sSeq (sSet 4 (e1 listD (eComp [5] (e1 itL (eCall m__law_rows (eCons (e1 lenD (eCons (eVarB 0) eNil)) (eCons (e1 listD (eCons (eC (.int 0)) (eNil))) (eNil))))) (gSet 5) (eTb (e2 eqD (e2 ixD (eVarB 5) (e1 negD (eC (.int 1)))) (eVarB 3))) (e1 sumD (eCons (e1 listD (eComp [6] (e1 rg2 (eCons (eC (.int 1)) (eCons (e1 lenD (eCons (eVarB 5) eNil)) (eNil)))) (gSet 6) (eTrue) (e1 negD (eCall m__law_more (eCons (eVar 0) (eCons (eVar 1) (eCons (e2 ixD (eVarB 5) (eVarB 6)) (eCons (e2 ixD (eVarB 5) (e2 subD (eVarB 6) (eC (.int 1)))) (eNil))))))))) eNil)))))
      (sPut 2 (eVarB 3) (e1 minD (eCons (eVarB 4) eNil)))))
      (sFrz [2] (sRet (eVar 2)))))
theorem sc__law_greatest : FnScope ["types", "chosen", "found", "last", "sums", "row", "t"] ["types", "chosen"] (defScope st__law_greatest) := ⟨rfl, rfl, rfl, by decide +kernel, rfl, by decide +kernel, by decide +kernel⟩
theorem ok__law_greatest {w : World} {K : PySem.W.Frag} {mg : Str → Option Value} {base : Heap} (m : M K mg) {fd : FuncData} (F : FnP K "_law_greatest" st__law_greatest (He.ga K "_law_greatest") fd) : FnOk PP w K mg base (L2.CX PP w) 2 (He.ga K "_law_greatest") fd ["types", "chosen"] (spOf K mg 2 m__law_greatest) := by
  obtain ⟨fd__law_rows, F__law_rows⟩ := m.fn__law_rows
  have k__law_rows := ok__law_rows (w := w) (base := base) m F__law_rows
  have b__law_rows : Binds K fd__law_rows ["many", "first"] [] := FunD.bindsN (ps := ["many", "first"]) F__law_rows fun _ _ _ _ _ _ us hl => match us, hl with | [_, _], _ => rfl
  obtain ⟨fd__law_more, F__law_more⟩ := m.fn__law_more
  have k__law_more := ok__law_more (w := w) (base := base) m F__law_more
  have b__law_more : Binds K fd__law_more ["types", "chosen", "one", "two"] [] := FunD.bindsN (ps := ["types", "chosen", "one", "two"]) F__law_more fun _ _ _ _ _ _ us hl => match us, hl with | [_, _, _, _], _ => rfl
  exact fnD_ok F sc__law_greatest rfl rfl (by decide) fun cdv A outer s H E hr =>
   ps_seq (pq_setN (i := 2) sc__law_greatest.nd rfl (by first | exact Or.inl rfl | exact Or.inr rfl) (pf_repN (pf_b (pf_n (pf_lst (pf_cons (pf_int) (pf_nil)) (by decide) (len_cons (len_nil))))) (pf_b (pf_len (m.fr_len) (pf_varB 0)))))
      (ps_seq (pq_for (passes_of rfl) rfl (pf_range2 rfl (m.fr_range) (pf_consB (pf_b (pf_int)) (pf_consB (pf_b (pf_len (m.fr_len) (pf_varB 0))) (pf_nilB)))) (pf_gname 3 sc__law_greatest.nd rfl (by first | exact Or.inl rfl | exact Or.inr rfl))
      (ps_seq (pq_setLc (own := false) (i := 4) (ow := [("row", 5)]) rfl sc__law_greatest.nd rfl rfl (sw_true rfl rfl rfl (by kernel_rfl)) (pf_iB rfl (pf_b (pf_call k__law_rows (hr.mono (by decide)) rfl m.gl__law_rows F__law_rows.kp b__law_rows (takes_of rfl rfl rfl rfl) (pf_cons (pf_len (m.fr_len) (pf_varB 0)) (pf_cons (pf_n (pf_lst (pf_cons (pf_int) (pf_nil)) (by decide) (len_cons (len_nil)))) (pf_nil))) (len_cons (len_cons (len_nil)))))) (blkOk_by (by kernel_rfl)) (fun _ _ _ _ _ => pf_gname 5 sc__law_greatest.nd rfl (by first | exact Or.inl rfl | exact Or.inr rfl)) (fun _ _ _ _ _ => pf_tone (pf_cmpT (cm_eq rfl (u64 hr)) (pf_b (pf_sub1 rfl (pf_varB 5) (pf_b (pf_neg (pf_b (pf_int)))))) (pf_varB 3))) (fun _ _ _ _ _ => pf_sum rfl (m.fr_sum) (pf_b (pf_n (pf_lc (own := [("t", 6)]) rfl sc__law_greatest.nd (pf_range2 rfl (m.fr_range) (pf_consB (pf_b (pf_int)) (pf_consB (pf_b (pf_len (m.fr_len) (pf_varB 5))) (pf_nilB)))) (blkOk_by (by kernel_rfl)) (fun _ _ _ _ _ => pf_gname 6 sc__law_greatest.nd rfl (by first | exact Or.inl rfl | exact Or.inr rfl)) (fun _ _ _ _ _ => pf_tyes) (fun _ _ _ _ _ => pf_neg (pf_b (pf_call k__law_more (hr.mono (by decide)) rfl m.gl__law_more F__law_more.kp b__law_more Pf.takes0 (pf_cons (pf_var 0) (pf_cons (pf_var 1) (pf_cons (pf_sub1 rfl (pf_varB 5) (pf_varB 6)) (pf_cons (pf_sub1 rfl (pf_varB 5) (pf_b (pf_sub (pf_varB 6) (pf_b (pf_int))))) (pf_nil))))) (len_cons (len_cons (len_cons (len_cons (len_nil)))))))))))))
      (ps_1 (pq_put (i := 2) rfl (by first | exact Or.inl rfl | exact Or.inr (Or.inl rfl) | exact Or.inr (Or.inr rfl)) (pf_varB 3) (pf_min rfl (m.fr_min) (pf_varB 4)) (fun ho hi => pg_sub ho hi set_list)))))
      (ps_1 (pq_frz [2] (pq_ret (pf_var 2)))))
def m__law_refused : List PyData → Res PyData := mDef 4 1 (
 sSeq (sTryC ["BadEnd", "BadPaid", "BadType"] (sIf (eTb (e2 eqD (eVarB 0) (eC (.int 0))))
      (sExpr (eCall m_round_of_gains (eCons (eVar 1) (eCons (eVar 2) (eNil)))))
      (sIf (eTb (e2 eqD (eVarB 0) (eC (.int 1))))
      (sExpr (eCall m_greatest_payments (eCons (eVar 1) (eCons (eVar 2) (eNil)))))
      (sIf (eTb (e2 eqD (eVarB 0) (eC (.int 2))))
      (sExpr (eCall m_keep_truth (eCons (eVar 1) (eCons (eVar 2) (eCons (eVar 3) (eNil))))))
      (sExpr (eCall m_gain_of_round (eCons (eVar 1) (eCons (eVar 2) (eCons (eVar 3) (eNil))))))))) [("BadType", fun k => .tuple [.str "type", .int k]), ("BadEnd", fun k => .tuple [.str "end", .int k]), ("BadPaid", fun k => .tuple [.str "paid", .int k])])
      (sRet (eC .none)))
theorem sc__law_refused : FnScope ["which", "types", "chosen", "told", "e"] ["which", "types", "chosen", "told"] (defScope st__law_refused) := ⟨rfl, rfl, rfl, by decide +kernel, rfl, by decide +kernel, by decide +kernel⟩
theorem tr__law_refused {K : PySem.W.Frag} {mg : Str → Option Value} (m : M K mg) {l : List (Str × (Int → PyData))} (hl : l.map (·.1) = (["BadType", "BadEnd", "BadPaid"] : List Str)) : ∀ c ∈ (["BadEnd", "BadPaid", "BadType"] : List Str), ∀ C, mg c = some (.ref C) → XfC K C ∧ PySem.W.findIn K (.ref C) "at" = some none ∧ ∀ x D, (∃ h, (x, h) ∈ l) → mg x = some (.ref D) → PySem.W.exmOne K (.ref C) (.ref D) = some (decide (c = x)) := by
  intro c hc C hC
  have hx : ∀ x h, (x, h) ∈ l → x ∈ (["BadType", "BadEnd", "BadPaid"] : List Str) := fun x h hm => by rw [← hl]; exact List.mem_map.mpr ⟨_, hm, rfl⟩
  simp only [List.mem_cons, List.not_mem_nil, or_false] at hc hx
  rcases hc with rfl | rfl | rfl
  · rw [m.gl_BadEnd] at hC
    cases hC
    refine ⟨m.xf_BadEnd, m.ex_BadEnd.noat, fun x D ⟨h, hm⟩ hD => ?_⟩
    rcases hx x h hm with rfl | rfl | rfl
    · rw [m.gl_BadType] at hD
      cases hD
      have := He.exm_ok (m.c.p.b.2.2 ("BadEnd", "BadType", false) (by decide))
      exact this.trans (by decide)
    · rw [m.gl_BadEnd] at hD
      cases hD
      have := He.exm_ok (m.c.p.b.2.2 ("BadEnd", "BadEnd", true) (by decide))
      exact this.trans (by decide)
    · rw [m.gl_BadPaid] at hD
      cases hD
      have := He.exm_ok (m.c.p.b.2.2 ("BadEnd", "BadPaid", false) (by decide))
      exact this.trans (by decide)
  · rw [m.gl_BadPaid] at hC
    cases hC
    refine ⟨m.xf_BadPaid, m.ex_BadPaid.noat, fun x D ⟨h, hm⟩ hD => ?_⟩
    rcases hx x h hm with rfl | rfl | rfl
    · rw [m.gl_BadType] at hD
      cases hD
      have := He.exm_ok (m.c.p.b.2.2 ("BadPaid", "BadType", false) (by decide))
      exact this.trans (by decide)
    · rw [m.gl_BadEnd] at hD
      cases hD
      have := He.exm_ok (m.c.p.b.2.2 ("BadPaid", "BadEnd", false) (by decide))
      exact this.trans (by decide)
    · rw [m.gl_BadPaid] at hD
      cases hD
      have := He.exm_ok (m.c.p.b.2.2 ("BadPaid", "BadPaid", true) (by decide))
      exact this.trans (by decide)
  · rw [m.gl_BadType] at hC
    cases hC
    refine ⟨m.xf_BadType, m.ex_BadType.noat, fun x D ⟨h, hm⟩ hD => ?_⟩
    rcases hx x h hm with rfl | rfl | rfl
    · rw [m.gl_BadType] at hD
      cases hD
      have := He.exm_ok (m.c.p.b.2.2 ("BadType", "BadType", true) (by decide))
      exact this.trans (by decide)
    · rw [m.gl_BadEnd] at hD
      cases hD
      have := He.exm_ok (m.c.p.b.2.2 ("BadType", "BadEnd", false) (by decide))
      exact this.trans (by decide)
    · rw [m.gl_BadPaid] at hD
      cases hD
      have := He.exm_ok (m.c.p.b.2.2 ("BadType", "BadPaid", false) (by decide))
      exact this.trans (by decide)
theorem ok__law_refused {w : World} {K : PySem.W.Frag} {mg : Str → Option Value} {base : Heap} (m : M K mg) {fd : FuncData} (F : FnP K "_law_refused" st__law_refused (He.ga K "_law_refused") fd) : FnOk PP w K mg base (L2.CX PP w) 5 (He.ga K "_law_refused") fd ["which", "types", "chosen", "told"] (spOf K mg 4 m__law_refused) := by
  obtain ⟨fd_round_of_gains, F_round_of_gains⟩ := m.fn_round_of_gains
  have k_round_of_gains := ok_round_of_gains (w := w) (base := base) m F_round_of_gains
  have b_round_of_gains : Binds K fd_round_of_gains ["types", "chosen"] [] := FunD.bindsN (ps := ["types", "chosen"]) F_round_of_gains fun _ _ _ _ _ _ us hl => match us, hl with | [_, _], _ => rfl
  obtain ⟨fd_greatest_payments, F_greatest_payments⟩ := m.fn_greatest_payments
  have k_greatest_payments := ok_greatest_payments (w := w) (base := base) m F_greatest_payments
  have b_greatest_payments : Binds K fd_greatest_payments ["types", "chosen"] [] := FunD.bindsN (ps := ["types", "chosen"]) F_greatest_payments fun _ _ _ _ _ _ us hl => match us, hl with | [_, _], _ => rfl
  obtain ⟨fd_keep_truth, F_keep_truth⟩ := m.fn_keep_truth
  have k_keep_truth := ok_keep_truth (w := w) (base := base) m F_keep_truth
  have b_keep_truth : Binds K fd_keep_truth ["types", "chosen", "paid"] [] := FunD.bindsN (ps := ["types", "chosen", "paid"]) F_keep_truth fun _ _ _ _ _ _ us hl => match us, hl with | [_, _, _], _ => rfl
  obtain ⟨fd_gain_of_round, F_gain_of_round⟩ := m.fn_gain_of_round
  have k_gain_of_round := ok_gain_of_round (w := w) (base := base) m F_gain_of_round
  have b_gain_of_round : Binds K fd_gain_of_round ["types", "chosen", "row"] [] := FunD.bindsN (ps := ["types", "chosen", "row"]) F_gain_of_round fun _ _ _ _ _ _ us hl => match us, hl with | [_, _, _], _ => rfl
  exact fnD_ok F sc__law_refused rfl rfl (by decide) fun cdv A outer s H E hr =>
   ps_seq (pq_try (i := 4) (l := [("BadType", fun k => .tuple [.str "type", .int k]), ("BadEnd", fun k => .tuple [.str "end", .int k]), ("BadPaid", fun k => .tuple [.str "paid", .int k])]) (cs := ["BadEnd", "BadPaid", "BadType"]) rfl rfl sc__law_refused.nd rfl rfl (takes_of rfl rfl rfl rfl) (tr__law_refused m rfl) (fun W pn xe tk po => ps_1 (pq_if (pf_cmpT (cm_eq rfl (u64 hr)) (pf_varB 0) (pf_b (pf_int)))
      (ps_1 (pq_expr (pf_b (pf_call k_round_of_gains (hr.mono (by decide)) rfl m.gl_round_of_gains F_round_of_gains.kp b_round_of_gains tk (pf_cons (pf_var 1) (pf_cons (pf_var 2) (pf_nil))) (len_cons (len_cons (len_nil)))))))
      (ps_1 (pq_if (pf_cmpT (cm_eq rfl (u64 hr)) (pf_varB 0) (pf_b (pf_int)))
      (ps_1 (pq_expr (pf_b (pf_call k_greatest_payments (hr.mono (by decide)) rfl m.gl_greatest_payments F_greatest_payments.kp b_greatest_payments tk (pf_cons (pf_var 1) (pf_cons (pf_var 2) (pf_nil))) (len_cons (len_cons (len_nil)))))))
      (ps_1 (pq_if (pf_cmpT (cm_eq rfl (u64 hr)) (pf_varB 0) (pf_b (pf_int)))
      (ps_1 (pq_expr (pf_b (pf_call k_keep_truth (hr.mono (by decide)) rfl m.gl_keep_truth F_keep_truth.kp b_keep_truth tk (pf_cons (pf_var 1) (pf_cons (pf_var 2) (pf_cons (pf_var 3) (pf_nil)))) (len_cons (len_cons (len_cons (len_nil))))))))
      (ps_1 (pq_expr (pf_b (pf_call k_gain_of_round (hr.mono (by decide)) rfl m.gl_gain_of_round F_gain_of_round.kp b_gain_of_round tk (pf_cons (pf_var 1) (pf_cons (pf_var 2) (pf_cons (pf_var 3) (pf_nil)))) (len_cons (len_cons (len_cons (len_nil))))))))))))))
      (.cons rfl m.gl_BadType (suite_pair (show (4 : Nat) < 5 by decide) rfl (by exact Or.inl rfl)) (.cons rfl m.gl_BadEnd (suite_pair (show (4 : Nat) < 5 by decide) rfl (by exact Or.inl rfl)) (.cons rfl m.gl_BadPaid (suite_pair (show (4 : Nat) < 5 by decide) rfl (by exact Or.inl rfl)) (.nil)))))
      (ps_1 (pq_ret (pf_non)))
def m_law : List PyData → Res PyData := mDef 1 26 (
 sSeq (sSet 1 (eCall m__law_draws (eCons (eVar 0) (eNil))))
      (sSeq (sFor (e1 rg1 (eCons (eC (.int 4)) (eNil))) (gSet 2)
      (sSeq (sSet 3 (e2 addD (eC (.int 10)) (e2 mulD (eC (.int 70)) (eVarB 2))))
      (sSeq (sAsg (gUnp (gsCons (gSet 4) (gsCons (gSet 5) (gsCons (gSet 6) (gsNil))))) (e1 tupD (eCons (e2 addD (eC (.int 1)) (eCall m__law_mix (eCons (eVar 1) (eCons (eVar 3) (eCons (eC (.int 5)) (eNil)))))) (eCons (e2 addD (eC (.int 1)) (eCall m__law_mix (eCons (eVar 1) (eCons (e2 addD (eVarB 3) (eC (.int 1))) (eCons (eC (.int 5)) (eNil)))))) (eCons (e2 ixD (e1 listD (eCons (eC (.int 5)) (eCons (eC (.int 20)) (eCons (eC (.int 1000001)) (eNil))))) (eCall m__law_mix (eCons (eVar 1) (eCons (e2 addD (eVarB 3) (eC (.int 2))) (eCons (eC (.int 3)) (eNil)))))) (eNil))))))
      (sSeq (sSet 7 (e1 listD (eComp [12] (e1 rg1 (eCons (eVarB 4) (eNil))) (gSet 12) (eTrue) (e1 listD (eComp [22] (e1 rg1 (eCons (eVarB 5) (eNil))) (gSet 22) (eTrue) (eCall m__law_mix (eCons (eVar 1) (eCons (e2 addD (e2 addD (e2 addD (eVarB 3) (eC (.int 3))) (e2 mulD (eC (.int 5)) (eVarB 12))) (eVarB 22)) (eCons (eVar 6) (eNil))))))))))
      (sSeq (sSet 8 (e1 listD (eComp [22] (e1 rg1 (eCons (eVarB 5) (eNil))) (gSet 22) (eTrue) (eCall m__law_mix (eCons (eVar 1) (eCons (e2 addD (e2 addD (eVarB 3) (eC (.int 30))) (eVarB 22)) (eCons (eVar 6) (eNil))))))))
      (sSeq (sSet 9 (e1 listD (eComp [13] (e1 itL (eVarB 7)) (gSet 13) (eTrue) (e1 listD (eComp [22] (e1 rg1 (eCons (eVarB 5) (eNil))) (gSet 22) (eTb (e2 eqD (e2 subD (e2 ixD (eVarB 13) (eVarB 22)) (e2 ixD (eVarB 8) (eVarB 22))) (e1 maxD (eCons (e1 listD (eComp [23] (e1 rg1 (eCons (eVarB 5) (eNil))) (gSet 23) (eTrue) (e2 subD (e2 ixD (eVarB 13) (eVarB 23)) (e2 ixD (eVarB 8) (eVarB 23))))) eNil)))) (eVar 22))))))
      (sSeq (sSet 10 (e1 listD (eComp [12] (e1 rg1 (eCons (eVarB 4) (eNil))) (gSet 12) (eTrue) (e2 ixD (e1 listD (eCons (eCall m__law_mix (eCons (eVar 1) (eCons (e2 addD (e2 addD (eVarB 3) (eC (.int 36))) (eVarB 12)) (eCons (eVar 5) (eNil))))) (eCons (e2 ixD (e2 ixD (eVarB 9) (eVarB 12)) (eCall m__law_mix (eCons (eVar 1) (eCons (e2 addD (e2 addD (eVarB 3) (eC (.int 36))) (eVarB 12)) (eCons (e1 lenD (eCons (e2 ixD (eVarB 9) (eVarB 12)) eNil)) (eNil)))))) (eNil)))) (e1 intD (eCons (e2 eqD (eCall m__law_mix (eCons (eVar 1) (eCons (e2 addD (eVarB 3) (eC (.int 42))) (eCons (eC (.int 2)) (eNil))))) (eC (.int 0))) eNil))))))
      (sSeq (sSet 11 (e1 listD (eComp [13] (e1 itL (eCall m__law_rows (eCons (eVar 4) (eCons (e1 listD (e1 lrg1 (eVarB 4))) (eNil))))) (gSet 13) (eAnd (eTb (e2 gtD (e1 lenD (eCons (eVarB 13) eNil)) (eC (.int 1)))) (eTb (e2 gtD (eCall m__law_gain (eCons (eVar 7) (eCons (eVar 10) (eCons (eVar 13) (eNil))))) (eC (.int 0))))) (eVar 13))))
      (sSeq (sIf (eTb (e2 neD (eCall m_round_of_gains (eCons (e1 listD (eComp [13] (e1 itL (eVarB 7)) (gSet 13) (eTrue) (e1 listD (e1 listN (eCons (eVarB 13) eNil))))) (eCons (e1 listD (e1 listN (eCons (eVarB 10) eNil))) (eNil)))) (e2 ixD (e2 addD (eVarB 11) (e1 listD (eCons (eC .none) (eNil)))) (eC (.int 0)))))
      (sRet (eC (.bool false)))
      (sPass))
      (sSeq (sFor (e1 rg1 (eCons (eC (.int 6)) (eNil))) (gSet 12)
      (sSeq (sSet 13 (e2 ixD (eCall m__law_rows (eCons (eVar 4) (eCons (e1 listD (e1 lrg1 (eVarB 4))) (eNil)))) (eCall m__law_mix (eCons (eVar 1) (eCons (e2 addD (e2 addD (eVarB 3) (eC (.int 43))) (eVarB 12)) (eCons (e1 lenD (eCons (eCall m__law_rows (eCons (eVar 4) (eCons (e1 listD (e1 lrg1 (eVarB 4))) (eNil)))) eNil)) (eNil)))))))
      (sIf (eTb (e2 neD (eCall m_gain_of_round (eCons (e1 listD (eComp [23] (e1 itL (eVarB 7)) (gSet 23) (eTrue) (e1 listD (e1 listN (eCons (eVarB 23) eNil))))) (eCons (e1 listD (e1 listN (eCons (eVarB 10) eNil))) (eCons (e1 listD (e1 listN (eCons (eVarB 13) eNil))) (eNil))))) (eCall m__law_gain (eCons (eVar 7) (eCons (eVar 10) (eCons (eVar 13) (eNil)))))))
      (sRet (eC (.bool false)))
      (sPass))))
      (sSeq (sSet 14 (eCall m_greatest_payments (eCons (e1 listD (eComp [13] (e1 itL (eVarB 7)) (gSet 13) (eTrue) (e1 listD (e1 listN (eCons (eVarB 13) eNil))))) (eCons (e1 listD (e1 listN (eCons (eVarB 10) eNil))) (eNil)))))
      (sSeq (sIf (eTb (e2 neD (e2 isD (eVarB 14) (eC .none)) (e2 neD (eVarB 11) (e1 listD (eNil)))))
      (sRet (eC (.bool false)))
      (sPass))
      (sSeq (sSet 15 (e1 listD (eCons (e1 listD (eComp [12] (e1 rg1 (eCons (eVarB 4) (eNil))) (gSet 12) (eTrue) (eCall m__law_mix (eCons (eVar 1) (eCons (e2 addD (e2 addD (eVarB 3) (eC (.int 50))) (eVarB 12)) (eCons (eVar 6) (eNil))))))) (eCons (e1 listD (eComp [22] (e1 itL (eVarB 10)) (gSet 22) (eTrue) (e2 ixD (eVarB 8) (eVarB 22)))) (eCons (e2 mulD (e1 listD (eCons (eC (.int 0)) (eNil))) (eVarB 4)) (eNil))))))
      (sSeq (sIf (eTb (e2 isnD (eVarB 14) (eC .none)))
      (sSeq (sIf (eOr (eTb (e2 neD (eVarB 14) (eCall m__law_greatest (eCons (eVar 7) (eCons (eVar 10) (eNil)))))) (eNot (eTb (eCall m__law_keeps (eCons (eVar 7) (eCons (eVar 10) (eCons (eVar 14) (eNil))))))))
      (sRet (eC (.bool false)))
      (sPass))
      (sSeq (sSet 16 (eCall m__law_mix (eCons (eVar 1) (eCons (e2 addD (eVarB 3) (eC (.int 56))) (eCons (eVar 4) (eNil))))))
      (sSeq (sSet 15 (e2 addD (eVarB 15) (e1 listD (eCons (eVar 14) (eCons (e2 addD (e2 addD (eSl slT (eVarB 14) (eNone) (e1 asI (eVarB 16))) (e1 listD (eCons (e2 addD (e2 ixD (eVarB 14) (eVarB 16)) (eC (.int 1))) (eNil)))) (eSl slT (eVarB 14) (e1 asI (e2 addD (eVarB 16) (eC (.int 1)))) (eNone))) (eCons (e1 listD (eComp [23] (e1 itL (eVarB 14)) (gSet 23) (eTrue) (e2 addD (eVarB 23) (eC (.int 7))))) (eNil)))))))
      (sIf (eAnd (eTb (e2 gtD (eVarB 16) (eC (.int 0)))) (eTb (eCall m__law_keeps (eCons (eVar 7) (eCons (eVar 10) (eCons (e2 ixD (eVarB 15) (eC (.int 4))) (eNil)))))))
      (sRet (eC (.bool false)))
      (sPass)))))
      (sPass))
      (sSeq (sFor (e1 itL (eVar 15)) (gSet 17)
      (sSeq (sSet 18 (eCall m__law_keeps (eCons (eVar 7) (eCons (eVar 10) (eCons (eVar 17) (eNil))))))
      (sSeq (sIf (eOr (eTb (e2 neD (eCall m_keep_truth (eCons (e1 listD (eComp [13] (e1 itL (eVarB 7)) (gSet 13) (eTrue) (e1 listD (e1 listN (eCons (eVarB 13) eNil))))) (eCons (e1 listD (e1 listN (eCons (eVarB 10) eNil))) (eCons (e1 listD (e1 listN (eCons (eVarB 17) eNil))) (eNil))))) (eVarB 18))) (eAnd (eTb (eVarB 18)) (eTb (e2 isD (eVarB 14) (eC .none)))))
      (sRet (eC (.bool false)))
      (sPass))
      (sIf (eAnd (eTb (eVarB 18)) (eTb (e2 neD (e1 listD (eComp [12] (e1 rg1 (eCons (eVarB 4) (eNil))) (gSet 12) (eTb (e2 gtD (e2 subD (e2 ixD (eVarB 17) (eVarB 12)) (e2 ixD (eVarB 17) (eC (.int 0)))) (e2 ixD (eOrV (eVar 14) (e2 mulD (e1 listD (eCons (eC (.int 0)) (eNil))) (eVarB 4))) (eVarB 12)))) (eVar 12))) (e1 listD (eNil)))))
      (sRet (eC (.bool false)))
      (sPass)))))
      (sSeq (sIf (eAnd (eTb (e2 eqD (e1 listD (eComp [12] (e1 rg1 (eCons (eVarB 4) (eNil))) (gSet 12) (eTb (e2 ninD (e2 ixD (eVarB 10) (eVarB 12)) (e2 ixD (eVarB 9) (eVarB 12)))) (eVar 12))) (e1 listD (eNil)))) (eOr (eTb (e2 isD (eVarB 14) (eC .none))) (eNot (eTb (eCall m__law_keeps (eCons (eVar 7) (eCons (eVar 10) (eCons (e2 ixD (eVarB 15) (eC (.int 1))) (eNil)))))))))
      (sRet (eC (.bool false)))
      (sPass))
      (sSeq (sSet 16 (eCall m__law_mix (eCons (eVar 1) (eCons (e2 addD (eVarB 3) (eC (.int 57))) (eCons (eVar 4) (eNil))))))
      (sSeq (sSet 19 (e1 listD (eComp [24] (e1 itL (e1 listD (eCons (e2 mulD (e1 listD (eCons (e1 negD (eC (.int 1))) (eNil))) (eVarB 5)) (eCons (e2 mulD (e1 listD (eCons (eC (.int 1000001)) (eNil))) (eVarB 5)) (eCons (e2 mulD (e1 listD (eCons (eC (.int 1)) (eNil))) (e2 addD (eVarB 5) (eC (.int 1)))) (eNil)))))) (gSet 24) (eTrue) (e2 addD (e2 addD (eSl slT (eVarB 7) (eNone) (e1 asI (eVarB 16))) (e1 listD (eCons (eVar 24) (eNil)))) (eSl slT (eVarB 7) (e1 asI (e2 addD (eVarB 16) (eC (.int 1)))) (eNone))))))
      (sSeq (sSet 20 (e1 listD (eCons (e1 tupD (eCons (eC (.str "type")) (eCons (eVar 16) (eNil)))) (eCons (e1 tupD (eCons (eC (.str "type")) (eCons (eVar 16) (eNil)))) (eCons (e1 tupD (eCons (eC (.str "type")) (eCons (e2 ixD (e1 listD (eCons (eVar 16) (eCons (eC (.int 1)) (eNil)))) (e1 intD (eCons (e2 eqD (eVarB 16) (eC (.int 0))) eNil))) (eNil)))) (eNil))))))
      (sSeq (sIf (eAnd (eTb (e2 gtD (eVarB 4) (eC (.int 1)))) (eTb (e2 neD (e1 listD (eComp [25] (e1 itL (eVarB 19)) (gSet 25) (eTrue) (e1 listD (eComp [26] (e1 rg1 (eCons (eC (.int 4)) (eNil))) (gSet 26) (eTrue) (eCall m__law_refused (eCons (eVar 26) (eCons (eVar 25) (eCons (e1 listD (eCons (eC (.int 99)) (eNil))) (eCons (e1 listD (eNil)) (eNil)))))))))) (e1 listD (eComp [23] (e1 itL (eVarB 20)) (gSet 23) (eTrue) (e2 mulD (e1 listD (eCons (eVar 23) (eNil))) (eC (.int 4))))))))
      (sRet (eC (.bool false)))
      (sPass))
      (sSeq (sIf (eOr (eTb (e2 neD (e1 listD (eComp [26] (e1 rg1 (eCons (eC (.int 4)) (eNil))) (gSet 26) (eTrue) (eCall m__law_refused (eCons (eVar 26) (eCons (e1 listD (eNil)) (eCons (e1 listD (eNil)) (eCons (e1 listD (eNil)) (eNil)))))))) (e2 mulD (e1 listD (eCons (e1 tupD (eCons (eC (.str "type")) (eCons (e1 negD (eC (.int 1))) (eNil)))) (eNil))) (eC (.int 4))))) (eTb (e2 neD (e1 listD (eComp [26] (e1 rg1 (eCons (eC (.int 4)) (eNil))) (gSet 26) (eTrue) (eCall m__law_refused (eCons (eVar 26) (eCons (e2 mulD (e1 listD (eCons (e1 listD (eCons (eC (.int 1)) (eNil))) (eNil))) (eC (.int 7))) (eCons (e1 listD (eNil)) (eCons (e1 listD (eNil)) (eNil)))))))) (e2 mulD (e1 listD (eCons (e1 tupD (eCons (eC (.str "type")) (eCons (e1 negD (eC (.int 1))) (eNil)))) (eNil))) (eC (.int 4))))))
      (sRet (eC (.bool false)))
      (sPass))
      (sSeq (sSet 21 (e2 addD (e2 addD (eSl slT (eVarB 10) (eNone) (e1 asI (eVarB 16))) (e1 listD (eCons (e2 ixD (e1 listD (eCons (eVar 5) (eCons (e1 negD (eC (.int 1))) (eNil)))) (eCall m__law_mix (eCons (eVar 1) (eCons (e2 addD (eVarB 3) (eC (.int 58))) (eCons (eC (.int 2)) (eNil)))))) (eNil)))) (eSl slT (eVarB 10) (e1 asI (e2 addD (eVarB 16) (eC (.int 1)))) (eNone))))
      (sSeq (sIf (eOr (eTb (e2 neD (e1 listD (eComp [26] (e1 rg1 (eCons (eC (.int 4)) (eNil))) (gSet 26) (eTrue) (eCall m__law_refused (eCons (eVar 26) (eCons (eVar 7) (eCons (eVar 21) (eCons (e1 listD (eNil)) (eNil)))))))) (e2 mulD (e1 listD (eCons (e1 tupD (eCons (eC (.str "end")) (eCons (eVar 16) (eNil)))) (eNil))) (eC (.int 4))))) (eTb (e2 neD (e1 listD (eComp [26] (e1 rg1 (eCons (eC (.int 4)) (eNil))) (gSet 26) (eTrue) (eCall m__law_refused (eCons (eVar 26) (eCons (eVar 7) (eCons (eSl slT (eVarB 10) (e1 asI (eC (.int 1))) (eNone)) (eCons (e1 listD (eNil)) (eNil)))))))) (e2 mulD (e1 listD (eCons (e1 tupD (eCons (eC (.str "end")) (eCons (eVar 4) (eNil)))) (eNil))) (eC (.int 4))))))
      (sRet (eC (.bool false)))
      (sPass))
      (sIf (eOr (eTb (e2 neD (eCall m__law_refused (eCons (eC (.int 2)) (eCons (eVar 7) (eCons (eVar 10) (eCons (e2 mulD (e1 listD (eCons (eC (.int 0)) (eNil))) (e2 addD (eVarB 4) (eC (.int 1)))) (eNil)))))) (e1 tupD (eCons (eC (.str "paid")) (eCons (eC (.int 0)) (eNil)))))) (eTb (e2 neD (eCall m__law_refused (eCons (eC (.int 2)) (eCons (eVar 7) (eCons (eVar 10) (eCons (e1 listD (eNil)) (eNil)))))) (e1 tupD (eCons (eC (.str "paid")) (eCons (eC (.int 0)) (eNil)))))))
      (sRet (eC (.bool false)))
      (sPass)))))))))))))))))))))))))
      (sRet (eC (.bool true)))))
theorem sc_law : FnScope ["script", "draws", "turn", "k", "many", "ends", "most", "types", "prices", "picks", "chosen", "rounds", "t", "row", "told", "paids", "at", "paid", "good", "bents", "due", "odd", "end", "one", "bad", "bent", "which"] ["script"] (defScope st_law) := ⟨rfl, rfl, rfl, by decide +kernel, rfl, by decide +kernel, by decide +kernel⟩
theorem ok_law {w : World} {K : PySem.W.Frag} {mg : Str → Option Value} {base : Heap} (m : M K mg) {fd : FuncData} (F : FnP K "law" st_law (He.ga K "law") fd) : FnOk PP w K mg base (L2.CX PP w) 6 (He.ga K "law") fd ["script"] (spOf K mg 1 m_law) := by
  obtain ⟨fd__law_draws, F__law_draws⟩ := m.fn__law_draws
  have k__law_draws := ok__law_draws (w := w) (base := base) m F__law_draws
  have b__law_draws : Binds K fd__law_draws ["script"] [] := FunD.bindsN (ps := ["script"]) F__law_draws fun _ _ _ _ _ _ us hl => match us, hl with | [_], _ => rfl
  obtain ⟨fd__law_mix, F__law_mix⟩ := m.fn__law_mix
  have k__law_mix := ok__law_mix (w := w) (base := base) m F__law_mix
  have b__law_mix : Binds K fd__law_mix ["draws", "k", "many"] [] := FunD.bindsN (ps := ["draws", "k", "many"]) F__law_mix fun _ _ _ _ _ _ us hl => match us, hl with | [_, _, _], _ => rfl
  obtain ⟨fd__law_rows, F__law_rows⟩ := m.fn__law_rows
  have k__law_rows := ok__law_rows (w := w) (base := base) m F__law_rows
  have b__law_rows : Binds K fd__law_rows ["many", "first"] [] := FunD.bindsN (ps := ["many", "first"]) F__law_rows fun _ _ _ _ _ _ us hl => match us, hl with | [_, _], _ => rfl
  obtain ⟨fd__law_gain, F__law_gain⟩ := m.fn__law_gain
  have k__law_gain := ok__law_gain (w := w) (base := base) m F__law_gain
  have b__law_gain : Binds K fd__law_gain ["types", "chosen", "row"] [] := FunD.bindsN (ps := ["types", "chosen", "row"]) F__law_gain fun _ _ _ _ _ _ us hl => match us, hl with | [_, _, _], _ => rfl
  obtain ⟨fd_round_of_gains, F_round_of_gains⟩ := m.fn_round_of_gains
  have k_round_of_gains := ok_round_of_gains (w := w) (base := base) m F_round_of_gains
  have b_round_of_gains : Binds K fd_round_of_gains ["types", "chosen"] [] := FunD.bindsN (ps := ["types", "chosen"]) F_round_of_gains fun _ _ _ _ _ _ us hl => match us, hl with | [_, _], _ => rfl
  obtain ⟨fd_gain_of_round, F_gain_of_round⟩ := m.fn_gain_of_round
  have k_gain_of_round := ok_gain_of_round (w := w) (base := base) m F_gain_of_round
  have b_gain_of_round : Binds K fd_gain_of_round ["types", "chosen", "row"] [] := FunD.bindsN (ps := ["types", "chosen", "row"]) F_gain_of_round fun _ _ _ _ _ _ us hl => match us, hl with | [_, _, _], _ => rfl
  obtain ⟨fd_greatest_payments, F_greatest_payments⟩ := m.fn_greatest_payments
  have k_greatest_payments := ok_greatest_payments (w := w) (base := base) m F_greatest_payments
  have b_greatest_payments : Binds K fd_greatest_payments ["types", "chosen"] [] := FunD.bindsN (ps := ["types", "chosen"]) F_greatest_payments fun _ _ _ _ _ _ us hl => match us, hl with | [_, _], _ => rfl
  obtain ⟨fd__law_keeps, F__law_keeps⟩ := m.fn__law_keeps
  have k__law_keeps := ok__law_keeps (w := w) (base := base) m F__law_keeps
  have b__law_keeps : Binds K fd__law_keeps ["types", "chosen", "paid"] [] := FunD.bindsN (ps := ["types", "chosen", "paid"]) F__law_keeps fun _ _ _ _ _ _ us hl => match us, hl with | [_, _, _], _ => rfl
  obtain ⟨fd__law_greatest, F__law_greatest⟩ := m.fn__law_greatest
  have k__law_greatest := ok__law_greatest (w := w) (base := base) m F__law_greatest
  have b__law_greatest : Binds K fd__law_greatest ["types", "chosen"] [] := FunD.bindsN (ps := ["types", "chosen"]) F__law_greatest fun _ _ _ _ _ _ us hl => match us, hl with | [_, _], _ => rfl
  obtain ⟨fd_keep_truth, F_keep_truth⟩ := m.fn_keep_truth
  have k_keep_truth := ok_keep_truth (w := w) (base := base) m F_keep_truth
  have b_keep_truth : Binds K fd_keep_truth ["types", "chosen", "paid"] [] := FunD.bindsN (ps := ["types", "chosen", "paid"]) F_keep_truth fun _ _ _ _ _ _ us hl => match us, hl with | [_, _, _], _ => rfl
  obtain ⟨fd__law_refused, F__law_refused⟩ := m.fn__law_refused
  have k__law_refused := ok__law_refused (w := w) (base := base) m F__law_refused
  have b__law_refused : Binds K fd__law_refused ["which", "types", "chosen", "told"] [] := FunD.bindsN (ps := ["which", "types", "chosen", "told"]) F__law_refused fun _ _ _ _ _ _ us hl => match us, hl with | [_, _, _, _], _ => rfl
  exact fnD_ok F sc_law rfl rfl (by decide) fun cdv A outer s H E hr =>
   ps_seq (pq_set (i := 1) sc_law.nd rfl (by first | exact Or.inl rfl | exact Or.inr rfl) (pf_call k__law_draws (hr.mono (by decide)) rfl m.gl__law_draws F__law_draws.kp b__law_draws (takes_of rfl rfl rfl rfl) (pf_cons (pf_var 0) (pf_nil)) (len_cons (len_nil))))
      (ps_seq (pq_for (passes_of rfl) rfl (pf_range1 rfl (m.fr_range) (pf_consB (pf_b (pf_int)) (pf_nilB))) (pf_gname 2 sc_law.nd rfl (by first | exact Or.inl rfl | exact Or.inr rfl))
      (ps_seq (pq_set (i := 3) sc_law.nd rfl (by first | exact Or.inl rfl | exact Or.inr rfl) (pf_add rfl (pf_b (pf_int)) (pf_b (pf_mul (pf_b (pf_int)) (pf_varB 2)))))
      (ps_seq (pq_asg (pf_tup (pf_cons (pf_add rfl (pf_b (pf_int)) (pf_b (pf_call k__law_mix (hr.mono (by decide)) rfl m.gl__law_mix F__law_mix.kp b__law_mix (takes_of rfl rfl rfl rfl) (pf_cons (pf_var 1) (pf_cons (pf_var 3) (pf_cons (pf_int) (pf_nil)))) (len_cons (len_cons (len_cons (len_nil))))))) (pf_cons (pf_add rfl (pf_b (pf_int)) (pf_b (pf_call k__law_mix (hr.mono (by decide)) rfl m.gl__law_mix F__law_mix.kp b__law_mix (takes_of rfl rfl rfl rfl) (pf_cons (pf_var 1) (pf_cons (pf_add rfl (pf_varB 3) (pf_b (pf_int))) (pf_cons (pf_int) (pf_nil)))) (len_cons (len_cons (len_cons (len_nil))))))) (pf_cons (pf_sub1 rfl (pf_b (pf_n (pf_lst (pf_cons (pf_int) (pf_cons (pf_int) (pf_cons (pf_int) (pf_nil)))) (by decide) (len_cons (len_cons (len_cons (len_nil))))))) (pf_b (pf_call k__law_mix (hr.mono (by decide)) rfl m.gl__law_mix F__law_mix.kp b__law_mix (takes_of rfl rfl rfl rfl) (pf_cons (pf_var 1) (pf_cons (pf_add rfl (pf_varB 3) (pf_b (pf_int))) (pf_cons (pf_int) (pf_nil)))) (len_cons (len_cons (len_cons (len_nil))))))) (pf_nil)))) (by decide) (len_cons (len_cons (len_cons (len_nil))))) (pf_gtup rfl rfl (pf_gcons (pf_gname 4 sc_law.nd rfl (by first | exact Or.inl rfl | exact Or.inr rfl)) (pf_gcons (pf_gname 5 sc_law.nd rfl (by first | exact Or.inl rfl | exact Or.inr rfl)) (pf_gcons (pf_gname 6 sc_law.nd rfl (by first | exact Or.inl rfl | exact Or.inr rfl)) (pf_gnil)))) (gsCons_len (gsCons_len (gsCons_len (gsNil_len))))))
      (ps_seq (pq_set (i := 7) sc_law.nd rfl (by first | exact Or.inl rfl | exact Or.inr rfl) (pf_n (pf_lc (own := [("t", 12)]) rfl sc_law.nd (pf_range1 rfl (m.fr_range) (pf_consB (pf_varB 4) (pf_nilB))) (blkOk_by (by kernel_rfl)) (fun _ _ _ _ _ => pf_gname 12 sc_law.nd rfl (by first | exact Or.inl rfl | exact Or.inr rfl)) (fun _ _ _ _ _ => pf_tyes) (fun _ _ _ _ _ => pf_n (pf_lc (own := [("end", 22)]) rfl sc_law.nd (pf_range1 rfl (m.fr_range) (pf_consB (pf_varB 5) (pf_nilB))) (blkOk_by (by kernel_rfl)) (fun _ _ _ _ _ => pf_gname 22 sc_law.nd rfl (by first | exact Or.inl rfl | exact Or.inr rfl)) (fun _ _ _ _ _ => pf_tyes) (fun _ _ _ _ _ => pf_call k__law_mix (hr.mono (by decide)) rfl m.gl__law_mix F__law_mix.kp b__law_mix Pf.takes0 (pf_cons (pf_var 1) (pf_cons (pf_add rfl (pf_b (pf_add rfl (pf_b (pf_add rfl (pf_varB 3) (pf_b (pf_int)))) (pf_b (pf_mul (pf_b (pf_int)) (pf_varB 12))))) (pf_varB 22)) (pf_cons (pf_var 6) (pf_nil)))) (len_cons (len_cons (len_cons (len_nil))))))))))
      (ps_seq (pq_set (i := 8) sc_law.nd rfl (by first | exact Or.inl rfl | exact Or.inr rfl) (pf_n (pf_lc (own := [("end", 22)]) rfl sc_law.nd (pf_range1 rfl (m.fr_range) (pf_consB (pf_varB 5) (pf_nilB))) (blkOk_by (by kernel_rfl)) (fun _ _ _ _ _ => pf_gname 22 sc_law.nd rfl (by first | exact Or.inl rfl | exact Or.inr rfl)) (fun _ _ _ _ _ => pf_tyes) (fun _ _ _ _ _ => pf_call k__law_mix (hr.mono (by decide)) rfl m.gl__law_mix F__law_mix.kp b__law_mix Pf.takes0 (pf_cons (pf_var 1) (pf_cons (pf_add rfl (pf_b (pf_add rfl (pf_varB 3) (pf_b (pf_int)))) (pf_varB 22)) (pf_cons (pf_var 6) (pf_nil)))) (len_cons (len_cons (len_cons (len_nil))))))))
      (ps_seq (pq_set (i := 9) sc_law.nd rfl (by first | exact Or.inl rfl | exact Or.inr rfl) (pf_n (pf_lc (own := [("row", 13)]) rfl sc_law.nd (pf_iB rfl (pf_varB 7)) (blkOk_by (by kernel_rfl)) (fun _ _ _ _ _ => pf_gname 13 sc_law.nd rfl (by first | exact Or.inl rfl | exact Or.inr rfl)) (fun _ _ _ _ _ => pf_tyes) (fun _ _ _ _ _ => pf_n (pf_lc (own := [("end", 22)]) rfl sc_law.nd (pf_range1 rfl (m.fr_range) (pf_consB (pf_varB 5) (pf_nilB))) (blkOk_by (by kernel_rfl)) (fun _ _ _ _ _ => pf_gname 22 sc_law.nd rfl (by first | exact Or.inl rfl | exact Or.inr rfl)) (fun _ _ _ _ _ => pf_tone (pf_cmpT (cm_eq rfl (u64 hr)) (pf_b (pf_sub (pf_b (pf_sub1 rfl (pf_varB 13) (pf_varB 22))) (pf_b (pf_sub1 rfl (pf_varB 8) (pf_varB 22))))) (pf_b (pf_max rfl (m.fr_max) (pf_b (pf_n (pf_lc (own := [("one", 23)]) rfl sc_law.nd (pf_range1 rfl (m.fr_range) (pf_consB (pf_varB 5) (pf_nilB))) (blkOk_by (by kernel_rfl)) (fun _ _ _ _ _ => pf_gname 23 sc_law.nd rfl (by first | exact Or.inl rfl | exact Or.inr rfl)) (fun _ _ _ _ _ => pf_tyes) (fun _ _ _ _ _ => pf_sub (pf_b (pf_sub1 rfl (pf_varB 13) (pf_varB 23))) (pf_b (pf_sub1 rfl (pf_varB 8) (pf_varB 23))))))))))) (fun _ _ _ _ _ => pf_var 22))))))
      (ps_seq (pq_set (i := 10) sc_law.nd rfl (by first | exact Or.inl rfl | exact Or.inr rfl) (pf_n (pf_lc (own := [("t", 12)]) rfl sc_law.nd (pf_range1 rfl (m.fr_range) (pf_consB (pf_varB 4) (pf_nilB))) (blkOk_by (by kernel_rfl)) (fun _ _ _ _ _ => pf_gname 12 sc_law.nd rfl (by first | exact Or.inl rfl | exact Or.inr rfl)) (fun _ _ _ _ _ => pf_tyes) (fun _ _ _ _ _ => pf_sub1 rfl (pf_b (pf_n (pf_lst (pf_cons (pf_call k__law_mix (hr.mono (by decide)) rfl m.gl__law_mix F__law_mix.kp b__law_mix Pf.takes0 (pf_cons (pf_var 1) (pf_cons (pf_add rfl (pf_b (pf_add rfl (pf_varB 3) (pf_b (pf_int)))) (pf_varB 12)) (pf_cons (pf_var 5) (pf_nil)))) (len_cons (len_cons (len_cons (len_nil))))) (pf_cons (pf_sub1 rfl (pf_b (pf_sub1 rfl (pf_varB 9) (pf_varB 12))) (pf_b (pf_call k__law_mix (hr.mono (by decide)) rfl m.gl__law_mix F__law_mix.kp b__law_mix Pf.takes0 (pf_cons (pf_var 1) (pf_cons (pf_add rfl (pf_b (pf_add rfl (pf_varB 3) (pf_b (pf_int)))) (pf_varB 12)) (pf_cons (pf_len (m.fr_len) (pf_b (pf_sub1 rfl (pf_varB 9) (pf_varB 12)))) (pf_nil)))) (len_cons (len_cons (len_cons (len_nil))))))) (pf_nil))) (by decide) (len_cons (len_cons (len_nil)))))) (pf_b (pf_int1 (m.fr_int) (pf_b (pf_cmpV (cm_eq rfl (u64 hr)) (pf_b (pf_call k__law_mix (hr.mono (by decide)) rfl m.gl__law_mix F__law_mix.kp b__law_mix Pf.takes0 (pf_cons (pf_var 1) (pf_cons (pf_add rfl (pf_varB 3) (pf_b (pf_int))) (pf_cons (pf_int) (pf_nil)))) (len_cons (len_cons (len_cons (len_nil)))))) (pf_b (pf_int))))))))))
      (ps_seq (pq_setLc (own := false) (i := 11) (ow := [("row", 13)]) rfl sc_law.nd rfl rfl (sw_true rfl rfl rfl (by kernel_rfl)) (pf_iB rfl (pf_b (pf_call k__law_rows (hr.mono (by decide)) rfl m.gl__law_rows F__law_rows.kp b__law_rows (takes_of rfl rfl rfl rfl) (pf_cons (pf_var 4) (pf_cons (pf_n (pf_listRg1 rfl (m.fr_list) (m.fr_range) (pf_varB 4))) (pf_nil))) (len_cons (len_cons (len_nil)))))) (blkOk_by (by kernel_rfl)) (fun _ _ _ _ _ => pf_gname 13 sc_law.nd rfl (by first | exact Or.inl rfl | exact Or.inr rfl)) (fun _ _ _ _ _ => pf_tone (PW.pt (pf_and (pf_cmpT cm_gt (pf_b (pf_len (m.fr_len) (pf_varB 13))) (pf_b (pf_int))) (pf_and1 (pf_cmpT cm_gt (pf_b (pf_call k__law_gain (hr.mono (by decide)) rfl m.gl__law_gain F__law_gain.kp b__law_gain Pf.takes0 (pf_cons (pf_var 7) (pf_cons (pf_var 10) (pf_cons (pf_var 13) (pf_nil)))) (len_cons (len_cons (len_cons (len_nil)))))) (pf_b (pf_int))))))) (fun _ _ _ _ _ => pf_var 13))
      (ps_seq (pq_if (pf_cmpT (cm_ne rfl (u64 hr)) (pf_b (pf_call k_round_of_gains (hr.mono (by decide)) rfl m.gl_round_of_gains F_round_of_gains.kp b_round_of_gains (takes_of rfl rfl rfl rfl) (pf_cons (pf_n (pf_lc (own := [("row", 13)]) rfl sc_law.nd (pf_iB rfl (pf_varB 7)) (blkOk_by (by kernel_rfl)) (fun _ _ _ _ _ => pf_gname 13 sc_law.nd rfl (by first | exact Or.inl rfl | exact Or.inr rfl)) (fun _ _ _ _ _ => pf_tyes) (fun _ _ _ _ _ => pf_n (pf_list (m.fr_list) (pf_varB 13))))) (pf_cons (pf_n (pf_list (m.fr_list) (pf_varB 10))) (pf_nil))) (len_cons (len_cons (len_nil))))) (pf_b (pf_sub1 rfl (pf_b (pf_add rfl (pf_varB 11) (pf_b (pf_n (pf_lst (pf_cons (pf_non) (pf_nil)) (by decide) (len_cons (len_nil))))))) (pf_b (pf_int)))))
      (ps_1 (pq_ret (pf_bl)))
      (ps_nil))
      (ps_seq (pq_for (passes_of rfl) rfl (pf_range1 rfl (m.fr_range) (pf_consB (pf_b (pf_int)) (pf_nilB))) (pf_gname 12 sc_law.nd rfl (by first | exact Or.inl rfl | exact Or.inr rfl))
      (ps_seq (pq_set (i := 13) sc_law.nd rfl (by first | exact Or.inl rfl | exact Or.inr rfl) (pf_sub1 rfl (pf_b (pf_call k__law_rows (hr.mono (by decide)) rfl m.gl__law_rows F__law_rows.kp b__law_rows (takes_of rfl rfl rfl rfl) (pf_cons (pf_var 4) (pf_cons (pf_n (pf_listRg1 rfl (m.fr_list) (m.fr_range) (pf_varB 4))) (pf_nil))) (len_cons (len_cons (len_nil))))) (pf_b (pf_call k__law_mix (hr.mono (by decide)) rfl m.gl__law_mix F__law_mix.kp b__law_mix (takes_of rfl rfl rfl rfl) (pf_cons (pf_var 1) (pf_cons (pf_add rfl (pf_b (pf_add rfl (pf_varB 3) (pf_b (pf_int)))) (pf_varB 12)) (pf_cons (pf_len (m.fr_len) (pf_b (pf_call k__law_rows (hr.mono (by decide)) rfl m.gl__law_rows F__law_rows.kp b__law_rows (takes_of rfl rfl rfl rfl) (pf_cons (pf_var 4) (pf_cons (pf_n (pf_listRg1 rfl (m.fr_list) (m.fr_range) (pf_varB 4))) (pf_nil))) (len_cons (len_cons (len_nil)))))) (pf_nil)))) (len_cons (len_cons (len_cons (len_nil))))))))
      (ps_1 (pq_if (pf_cmpT (cm_ne rfl (u64 hr)) (pf_b (pf_call k_gain_of_round (hr.mono (by decide)) rfl m.gl_gain_of_round F_gain_of_round.kp b_gain_of_round (takes_of rfl rfl rfl rfl) (pf_cons (pf_n (pf_lc (own := [("one", 23)]) rfl sc_law.nd (pf_iB rfl (pf_varB 7)) (blkOk_by (by kernel_rfl)) (fun _ _ _ _ _ => pf_gname 23 sc_law.nd rfl (by first | exact Or.inl rfl | exact Or.inr rfl)) (fun _ _ _ _ _ => pf_tyes) (fun _ _ _ _ _ => pf_n (pf_list (m.fr_list) (pf_varB 23))))) (pf_cons (pf_n (pf_list (m.fr_list) (pf_varB 10))) (pf_cons (pf_n (pf_list (m.fr_list) (pf_varB 13))) (pf_nil)))) (len_cons (len_cons (len_cons (len_nil)))))) (pf_b (pf_call k__law_gain (hr.mono (by decide)) rfl m.gl__law_gain F__law_gain.kp b__law_gain (takes_of rfl rfl rfl rfl) (pf_cons (pf_var 7) (pf_cons (pf_var 10) (pf_cons (pf_var 13) (pf_nil)))) (len_cons (len_cons (len_cons (len_nil)))))))
      (ps_1 (pq_ret (pf_bl)))
      (ps_nil)))))
      (ps_seq (pq_set (i := 14) sc_law.nd rfl (by first | exact Or.inl rfl | exact Or.inr rfl) (pf_call k_greatest_payments (hr.mono (by decide)) rfl m.gl_greatest_payments F_greatest_payments.kp b_greatest_payments (takes_of rfl rfl rfl rfl) (pf_cons (pf_n (pf_lc (own := [("row", 13)]) rfl sc_law.nd (pf_iB rfl (pf_varB 7)) (blkOk_by (by kernel_rfl)) (fun _ _ _ _ _ => pf_gname 13 sc_law.nd rfl (by first | exact Or.inl rfl | exact Or.inr rfl)) (fun _ _ _ _ _ => pf_tyes) (fun _ _ _ _ _ => pf_n (pf_list (m.fr_list) (pf_varB 13))))) (pf_cons (pf_n (pf_list (m.fr_list) (pf_varB 10))) (pf_nil))) (len_cons (len_cons (len_nil)))))
      (ps_seq (pq_if (pf_cmpT (cm_ne rfl (u64 hr)) (pf_b (pf_cmpV cm_is (pf_varB 14) (pf_b (pf_non)))) (pf_b (pf_cmpV (cm_ne rfl (u64 hr)) (pf_varB 11) (pf_b (pf_n (pf_lst (pf_nil) (by decide) (len_nil)))))))
      (ps_1 (pq_ret (pf_bl)))
      (ps_nil))
      (ps_seq (pq_set (i := 15) sc_law.nd rfl (by first | exact Or.inl rfl | exact Or.inr rfl) (pf_n (pf_lst (pf_cons (pf_n (pf_lc (own := [("t", 12)]) rfl sc_law.nd (pf_range1 rfl (m.fr_range) (pf_consB (pf_varB 4) (pf_nilB))) (blkOk_by (by kernel_rfl)) (fun _ _ _ _ _ => pf_gname 12 sc_law.nd rfl (by first | exact Or.inl rfl | exact Or.inr rfl)) (fun _ _ _ _ _ => pf_tyes) (fun _ _ _ _ _ => pf_call k__law_mix (hr.mono (by decide)) rfl m.gl__law_mix F__law_mix.kp b__law_mix Pf.takes0 (pf_cons (pf_var 1) (pf_cons (pf_add rfl (pf_b (pf_add rfl (pf_varB 3) (pf_b (pf_int)))) (pf_varB 12)) (pf_cons (pf_var 6) (pf_nil)))) (len_cons (len_cons (len_cons (len_nil))))))) (pf_cons (pf_n (pf_lc (own := [("end", 22)]) rfl sc_law.nd (pf_iB rfl (pf_varB 10)) (blkOk_by (by kernel_rfl)) (fun _ _ _ _ _ => pf_gname 22 sc_law.nd rfl (by first | exact Or.inl rfl | exact Or.inr rfl)) (fun _ _ _ _ _ => pf_tyes) (fun _ _ _ _ _ => pf_sub1 rfl (pf_varB 8) (pf_varB 22)))) (pf_cons (pf_mul (pf_b (pf_n (pf_lst (pf_cons (pf_int) (pf_nil)) (by decide) (len_cons (len_nil))))) (pf_varB 4)) (pf_nil)))) (by decide) (len_cons (len_cons (len_cons (len_nil)))))))
      (ps_seq (pq_if (pf_cmpT cm_isn (pf_varB 14) (pf_b (pf_non)))
      (ps_seq (pq_if (PW.pt (pf_or (pf_cmpT (cm_ne rfl (u64 hr)) (pf_varB 14) (pf_b (pf_call k__law_greatest (hr.mono (by decide)) rfl m.gl__law_greatest F__law_greatest.kp b__law_greatest (takes_of rfl rfl rfl rfl) (pf_cons (pf_var 7) (pf_cons (pf_var 10) (pf_nil))) (len_cons (len_cons (len_nil)))))) (pf_or1 (pf_not (pf_tv (pf_b (pf_call k__law_keeps (hr.mono (by decide)) rfl m.gl__law_keeps F__law_keeps.kp b__law_keeps (takes_of rfl rfl rfl rfl) (pf_cons (pf_var 7) (pf_cons (pf_var 10) (pf_cons (pf_var 14) (pf_nil)))) (len_cons (len_cons (len_cons (len_nil)))))))))))
      (ps_1 (pq_ret (pf_bl)))
      (ps_nil))
      (ps_seq (pq_set (i := 16) sc_law.nd rfl (by first | exact Or.inl rfl | exact Or.inr rfl) (pf_call k__law_mix (hr.mono (by decide)) rfl m.gl__law_mix F__law_mix.kp b__law_mix (takes_of rfl rfl rfl rfl) (pf_cons (pf_var 1) (pf_cons (pf_add rfl (pf_varB 3) (pf_b (pf_int))) (pf_cons (pf_var 4) (pf_nil)))) (len_cons (len_cons (len_cons (len_nil))))))
      (ps_seq (pq_set (i := 15) sc_law.nd rfl (by first | exact Or.inl rfl | exact Or.inr rfl) (pf_add rfl (pf_varB 15) (pf_b (pf_n (pf_lst (pf_cons (pf_var 14) (pf_cons (pf_add rfl (pf_b (pf_add rfl (pf_b (pf_slF rfl (pf_varB 14) (pf_pnone) (pf_psome (pf_varB 16)))) (pf_b (pf_n (pf_lst (pf_cons (pf_add rfl (pf_b (pf_sub1 rfl (pf_varB 14) (pf_varB 16))) (pf_b (pf_int))) (pf_nil)) (by decide) (len_cons (len_nil))))))) (pf_b (pf_slF rfl (pf_varB 14) (pf_psome (pf_b (pf_add rfl (pf_varB 16) (pf_b (pf_int))))) (pf_pnone)))) (pf_cons (pf_n (pf_lc (own := [("one", 23)]) rfl sc_law.nd (pf_iB rfl (pf_varB 14)) (blkOk_by (by kernel_rfl)) (fun _ _ _ _ _ => pf_gname 23 sc_law.nd rfl (by first | exact Or.inl rfl | exact Or.inr rfl)) (fun _ _ _ _ _ => pf_tyes) (fun _ _ _ _ _ => pf_add rfl (pf_varB 23) (pf_b (pf_int))))) (pf_nil)))) (by decide) (len_cons (len_cons (len_cons (len_nil)))))))))
      (ps_1 (pq_if (PW.pt (pf_and (pf_cmpT cm_gt (pf_varB 16) (pf_b (pf_int))) (pf_and1 (pf_tv (pf_b (pf_call k__law_keeps (hr.mono (by decide)) rfl m.gl__law_keeps F__law_keeps.kp b__law_keeps (takes_of rfl rfl rfl rfl) (pf_cons (pf_var 7) (pf_cons (pf_var 10) (pf_cons (pf_sub1 rfl (pf_varB 15) (pf_b (pf_int))) (pf_nil)))) (len_cons (len_cons (len_cons (len_nil))))))))))
      (ps_1 (pq_ret (pf_bl)))
      (ps_nil))))))
      (ps_nil))
      (ps_seq (pq_for (passes_of rfl) rfl (pf_iF rfl (pf_var 15)) (pf_gname 17 sc_law.nd rfl (by first | exact Or.inl rfl | exact Or.inr rfl))
      (ps_seq (pq_set (i := 18) sc_law.nd rfl (by first | exact Or.inl rfl | exact Or.inr rfl) (pf_call k__law_keeps (hr.mono (by decide)) rfl m.gl__law_keeps F__law_keeps.kp b__law_keeps (takes_of rfl rfl rfl rfl) (pf_cons (pf_var 7) (pf_cons (pf_var 10) (pf_cons (pf_var 17) (pf_nil)))) (len_cons (len_cons (len_cons (len_nil))))))
      (ps_seq (pq_if (PW.pt (pf_or (pf_cmpT (cm_ne rfl (u64 hr)) (pf_b (pf_call k_keep_truth (hr.mono (by decide)) rfl m.gl_keep_truth F_keep_truth.kp b_keep_truth (takes_of rfl rfl rfl rfl) (pf_cons (pf_n (pf_lc (own := [("row", 13)]) rfl sc_law.nd (pf_iB rfl (pf_varB 7)) (blkOk_by (by kernel_rfl)) (fun _ _ _ _ _ => pf_gname 13 sc_law.nd rfl (by first | exact Or.inl rfl | exact Or.inr rfl)) (fun _ _ _ _ _ => pf_tyes) (fun _ _ _ _ _ => pf_n (pf_list (m.fr_list) (pf_varB 13))))) (pf_cons (pf_n (pf_list (m.fr_list) (pf_varB 10))) (pf_cons (pf_n (pf_list (m.fr_list) (pf_varB 17))) (pf_nil)))) (len_cons (len_cons (len_cons (len_nil)))))) (pf_varB 18)) (pf_or1 (PW.pt (pf_and (pf_tv (pf_varB 18)) (pf_and1 (pf_cmpT cm_is (pf_varB 14) (pf_b (pf_non)))))))))
      (ps_1 (pq_ret (pf_bl)))
      (ps_nil))
      (ps_1 (pq_if (PW.pt (pf_and (pf_tv (pf_varB 18)) (pf_and1 (pf_cmpT (cm_ne rfl (u64 hr)) (pf_b (pf_n (pf_lc (own := [("t", 12)]) rfl sc_law.nd (pf_range1 rfl (m.fr_range) (pf_consB (pf_varB 4) (pf_nilB))) (blkOk_by (by kernel_rfl)) (fun _ _ _ _ _ => pf_gname 12 sc_law.nd rfl (by first | exact Or.inl rfl | exact Or.inr rfl)) (fun _ _ _ _ _ => pf_tone (pf_cmpT cm_gt (pf_b (pf_sub (pf_b (pf_sub1 rfl (pf_varB 17) (pf_varB 12))) (pf_b (pf_sub1 rfl (pf_varB 17) (pf_b (pf_int)))))) (pf_b (pf_sub1 rfl (pf_b (pf_orV (pf_var 14) (pf_v1V (pf_mul (pf_b (pf_n (pf_lst (pf_cons (pf_int) (pf_nil)) (by decide) (len_cons (len_nil))))) (pf_varB 4))))) (pf_varB 12))))) (fun _ _ _ _ _ => pf_var 12)))) (pf_b (pf_n (pf_lst (pf_nil) (by decide) (len_nil))))))))
      (ps_1 (pq_ret (pf_bl)))
      (ps_nil))))))
      (ps_seq (pq_if (PW.pt (pf_and (pf_cmpT (cm_eq rfl (u64 hr)) (pf_b (pf_n (pf_lc (own := [("t", 12)]) rfl sc_law.nd (pf_range1 rfl (m.fr_range) (pf_consB (pf_varB 4) (pf_nilB))) (blkOk_by (by kernel_rfl)) (fun _ _ _ _ _ => pf_gname 12 sc_law.nd rfl (by first | exact Or.inl rfl | exact Or.inr rfl)) (fun _ _ _ _ _ => pf_tone (pf_cmpT (cm_nin rfl (u66 hr)) (pf_b (pf_sub1 rfl (pf_varB 10) (pf_varB 12))) (pf_b (pf_sub1 rfl (pf_varB 9) (pf_varB 12))))) (fun _ _ _ _ _ => pf_var 12)))) (pf_b (pf_n (pf_lst (pf_nil) (by decide) (len_nil))))) (pf_and1 (PW.pt (pf_or (pf_cmpT cm_is (pf_varB 14) (pf_b (pf_non))) (pf_or1 (pf_not (pf_tv (pf_b (pf_call k__law_keeps (hr.mono (by decide)) rfl m.gl__law_keeps F__law_keeps.kp b__law_keeps (takes_of rfl rfl rfl rfl) (pf_cons (pf_var 7) (pf_cons (pf_var 10) (pf_cons (pf_sub1 rfl (pf_varB 15) (pf_b (pf_int))) (pf_nil)))) (len_cons (len_cons (len_cons (len_nil))))))))))))))
      (ps_1 (pq_ret (pf_bl)))
      (ps_nil))
      (ps_seq (pq_set (i := 16) sc_law.nd rfl (by first | exact Or.inl rfl | exact Or.inr rfl) (pf_call k__law_mix (hr.mono (by decide)) rfl m.gl__law_mix F__law_mix.kp b__law_mix (takes_of rfl rfl rfl rfl) (pf_cons (pf_var 1) (pf_cons (pf_add rfl (pf_varB 3) (pf_b (pf_int))) (pf_cons (pf_var 4) (pf_nil)))) (len_cons (len_cons (len_cons (len_nil))))))
      (ps_seq (pq_setLc (own := false) (i := 19) (ow := [("bad", 24)]) rfl sc_law.nd rfl rfl (sw_true rfl rfl rfl (by kernel_rfl)) (pf_iB rfl (pf_b (pf_n (pf_lst (pf_cons (pf_mul (pf_b (pf_n (pf_lst (pf_cons (pf_neg (pf_b (pf_int))) (pf_nil)) (by decide) (len_cons (len_nil))))) (pf_varB 5)) (pf_cons (pf_mul (pf_b (pf_n (pf_lst (pf_cons (pf_int) (pf_nil)) (by decide) (len_cons (len_nil))))) (pf_varB 5)) (pf_cons (pf_mul (pf_b (pf_n (pf_lst (pf_cons (pf_int) (pf_nil)) (by decide) (len_cons (len_nil))))) (pf_b (pf_add rfl (pf_varB 5) (pf_b (pf_int))))) (pf_nil)))) (by decide) (len_cons (len_cons (len_cons (len_nil)))))))) (blkOk_by (by kernel_rfl)) (fun _ _ _ _ _ => pf_gname 24 sc_law.nd rfl (by first | exact Or.inl rfl | exact Or.inr rfl)) (fun _ _ _ _ _ => pf_tyes) (fun _ _ _ _ _ => pf_add rfl (pf_b (pf_add rfl (pf_b (pf_slF rfl (pf_varB 7) (pf_pnone) (pf_psome (pf_varB 16)))) (pf_b (pf_n (pf_lst (pf_cons (pf_var 24) (pf_nil)) (by decide) (len_cons (len_nil))))))) (pf_b (pf_slF rfl (pf_varB 7) (pf_psome (pf_b (pf_add rfl (pf_varB 16) (pf_b (pf_int))))) (pf_pnone)))))
      (ps_seq (pq_set (i := 20) sc_law.nd rfl (by first | exact Or.inl rfl | exact Or.inr rfl) (pf_n (pf_lst (pf_cons (pf_tup (pf_cons (pf_str) (pf_cons (pf_var 16) (pf_nil))) (by decide) (len_cons (len_cons (len_nil)))) (pf_cons (pf_tup (pf_cons (pf_str) (pf_cons (pf_var 16) (pf_nil))) (by decide) (len_cons (len_cons (len_nil)))) (pf_cons (pf_tup (pf_cons (pf_str) (pf_cons (pf_sub1 rfl (pf_b (pf_n (pf_lst (pf_cons (pf_var 16) (pf_cons (pf_int) (pf_nil))) (by decide) (len_cons (len_cons (len_nil)))))) (pf_b (pf_int1 (m.fr_int) (pf_b (pf_cmpV (cm_eq rfl (u64 hr)) (pf_varB 16) (pf_b (pf_int))))))) (pf_nil))) (by decide) (len_cons (len_cons (len_nil)))) (pf_nil)))) (by decide) (len_cons (len_cons (len_cons (len_nil)))))))
      (ps_seq (pq_if (PW.pt (pf_and (pf_cmpT cm_gt (pf_varB 4) (pf_b (pf_int))) (pf_and1 (pf_cmpT (cm_ne rfl (u64 hr)) (pf_b (pf_n (pf_lc (own := [("bent", 25)]) rfl sc_law.nd (pf_iB rfl (pf_varB 19)) (blkOk_by (by kernel_rfl)) (fun _ _ _ _ _ => pf_gname 25 sc_law.nd rfl (by first | exact Or.inl rfl | exact Or.inr rfl)) (fun _ _ _ _ _ => pf_tyes) (fun _ _ _ _ _ => pf_n (pf_lc (own := [("which", 26)]) rfl sc_law.nd (pf_range1 rfl (m.fr_range) (pf_consB (pf_b (pf_int)) (pf_nilB))) (blkOk_by (by kernel_rfl)) (fun _ _ _ _ _ => pf_gname 26 sc_law.nd rfl (by first | exact Or.inl rfl | exact Or.inr rfl)) (fun _ _ _ _ _ => pf_tyes) (fun _ _ _ _ _ => pf_call k__law_refused (hr.mono (by decide)) rfl m.gl__law_refused F__law_refused.kp b__law_refused Pf.takes0 (pf_cons (pf_var 26) (pf_cons (pf_var 25) (pf_cons (pf_n (pf_lst (pf_cons (pf_int) (pf_nil)) (by decide) (len_cons (len_nil)))) (pf_cons (pf_n (pf_lst (pf_nil) (by decide) (len_nil))) (pf_nil))))) (len_cons (len_cons (len_cons (len_cons (len_nil))))))))))) (pf_b (pf_n (pf_lc (own := [("one", 23)]) rfl sc_law.nd (pf_iB rfl (pf_varB 20)) (blkOk_by (by kernel_rfl)) (fun _ _ _ _ _ => pf_gname 23 sc_law.nd rfl (by first | exact Or.inl rfl | exact Or.inr rfl)) (fun _ _ _ _ _ => pf_tyes) (fun _ _ _ _ _ => pf_mul (pf_b (pf_n (pf_lst (pf_cons (pf_var 23) (pf_nil)) (by decide) (len_cons (len_nil))))) (pf_b (pf_int))))))))))
      (ps_1 (pq_ret (pf_bl)))
      (ps_nil))
      (ps_seq (pq_if (PW.pt (pf_or (pf_cmpT (cm_ne rfl (u64 hr)) (pf_b (pf_n (pf_lc (own := [("which", 26)]) rfl sc_law.nd (pf_range1 rfl (m.fr_range) (pf_consB (pf_b (pf_int)) (pf_nilB))) (blkOk_by (by kernel_rfl)) (fun _ _ _ _ _ => pf_gname 26 sc_law.nd rfl (by first | exact Or.inl rfl | exact Or.inr rfl)) (fun _ _ _ _ _ => pf_tyes) (fun _ _ _ _ _ => pf_call k__law_refused (hr.mono (by decide)) rfl m.gl__law_refused F__law_refused.kp b__law_refused Pf.takes0 (pf_cons (pf_var 26) (pf_cons (pf_n (pf_lst (pf_nil) (by decide) (len_nil))) (pf_cons (pf_n (pf_lst (pf_nil) (by decide) (len_nil))) (pf_cons (pf_n (pf_lst (pf_nil) (by decide) (len_nil))) (pf_nil))))) (len_cons (len_cons (len_cons (len_cons (len_nil))))))))) (pf_b (pf_mul (pf_b (pf_n (pf_lst (pf_cons (pf_tup (pf_cons (pf_str) (pf_cons (pf_neg (pf_b (pf_int))) (pf_nil))) (by decide) (len_cons (len_cons (len_nil)))) (pf_nil)) (by decide) (len_cons (len_nil))))) (pf_b (pf_int))))) (pf_or1 (pf_cmpT (cm_ne rfl (u64 hr)) (pf_b (pf_n (pf_lc (own := [("which", 26)]) rfl sc_law.nd (pf_range1 rfl (m.fr_range) (pf_consB (pf_b (pf_int)) (pf_nilB))) (blkOk_by (by kernel_rfl)) (fun _ _ _ _ _ => pf_gname 26 sc_law.nd rfl (by first | exact Or.inl rfl | exact Or.inr rfl)) (fun _ _ _ _ _ => pf_tyes) (fun _ _ _ _ _ => pf_call k__law_refused (hr.mono (by decide)) rfl m.gl__law_refused F__law_refused.kp b__law_refused Pf.takes0 (pf_cons (pf_var 26) (pf_cons (pf_mul (pf_b (pf_n (pf_lst (pf_cons (pf_n (pf_lst (pf_cons (pf_int) (pf_nil)) (by decide) (len_cons (len_nil)))) (pf_nil)) (by decide) (len_cons (len_nil))))) (pf_b (pf_int))) (pf_cons (pf_n (pf_lst (pf_nil) (by decide) (len_nil))) (pf_cons (pf_n (pf_lst (pf_nil) (by decide) (len_nil))) (pf_nil))))) (len_cons (len_cons (len_cons (len_cons (len_nil))))))))) (pf_b (pf_mul (pf_b (pf_n (pf_lst (pf_cons (pf_tup (pf_cons (pf_str) (pf_cons (pf_neg (pf_b (pf_int))) (pf_nil))) (by decide) (len_cons (len_cons (len_nil)))) (pf_nil)) (by decide) (len_cons (len_nil))))) (pf_b (pf_int))))))))
      (ps_1 (pq_ret (pf_bl)))
      (ps_nil))
      (ps_seq (pq_set (i := 21) sc_law.nd rfl (by first | exact Or.inl rfl | exact Or.inr rfl) (pf_add rfl (pf_b (pf_add rfl (pf_b (pf_slF rfl (pf_varB 10) (pf_pnone) (pf_psome (pf_varB 16)))) (pf_b (pf_n (pf_lst (pf_cons (pf_sub1 rfl (pf_b (pf_n (pf_lst (pf_cons (pf_var 5) (pf_cons (pf_neg (pf_b (pf_int))) (pf_nil))) (by decide) (len_cons (len_cons (len_nil)))))) (pf_b (pf_call k__law_mix (hr.mono (by decide)) rfl m.gl__law_mix F__law_mix.kp b__law_mix (takes_of rfl rfl rfl rfl) (pf_cons (pf_var 1) (pf_cons (pf_add rfl (pf_varB 3) (pf_b (pf_int))) (pf_cons (pf_int) (pf_nil)))) (len_cons (len_cons (len_cons (len_nil))))))) (pf_nil)) (by decide) (len_cons (len_nil))))))) (pf_b (pf_slF rfl (pf_varB 10) (pf_psome (pf_b (pf_add rfl (pf_varB 16) (pf_b (pf_int))))) (pf_pnone)))))
      (ps_seq (pq_if (PW.pt (pf_or (pf_cmpT (cm_ne rfl (u64 hr)) (pf_b (pf_n (pf_lc (own := [("which", 26)]) rfl sc_law.nd (pf_range1 rfl (m.fr_range) (pf_consB (pf_b (pf_int)) (pf_nilB))) (blkOk_by (by kernel_rfl)) (fun _ _ _ _ _ => pf_gname 26 sc_law.nd rfl (by first | exact Or.inl rfl | exact Or.inr rfl)) (fun _ _ _ _ _ => pf_tyes) (fun _ _ _ _ _ => pf_call k__law_refused (hr.mono (by decide)) rfl m.gl__law_refused F__law_refused.kp b__law_refused Pf.takes0 (pf_cons (pf_var 26) (pf_cons (pf_var 7) (pf_cons (pf_var 21) (pf_cons (pf_n (pf_lst (pf_nil) (by decide) (len_nil))) (pf_nil))))) (len_cons (len_cons (len_cons (len_cons (len_nil))))))))) (pf_b (pf_mul (pf_b (pf_n (pf_lst (pf_cons (pf_tup (pf_cons (pf_str) (pf_cons (pf_var 16) (pf_nil))) (by decide) (len_cons (len_cons (len_nil)))) (pf_nil)) (by decide) (len_cons (len_nil))))) (pf_b (pf_int))))) (pf_or1 (pf_cmpT (cm_ne rfl (u64 hr)) (pf_b (pf_n (pf_lc (own := [("which", 26)]) rfl sc_law.nd (pf_range1 rfl (m.fr_range) (pf_consB (pf_b (pf_int)) (pf_nilB))) (blkOk_by (by kernel_rfl)) (fun _ _ _ _ _ => pf_gname 26 sc_law.nd rfl (by first | exact Or.inl rfl | exact Or.inr rfl)) (fun _ _ _ _ _ => pf_tyes) (fun _ _ _ _ _ => pf_call k__law_refused (hr.mono (by decide)) rfl m.gl__law_refused F__law_refused.kp b__law_refused Pf.takes0 (pf_cons (pf_var 26) (pf_cons (pf_var 7) (pf_cons (pf_slF rfl (pf_varB 10) (pf_psome (pf_b (pf_int))) (pf_pnone)) (pf_cons (pf_n (pf_lst (pf_nil) (by decide) (len_nil))) (pf_nil))))) (len_cons (len_cons (len_cons (len_cons (len_nil))))))))) (pf_b (pf_mul (pf_b (pf_n (pf_lst (pf_cons (pf_tup (pf_cons (pf_str) (pf_cons (pf_var 4) (pf_nil))) (by decide) (len_cons (len_cons (len_nil)))) (pf_nil)) (by decide) (len_cons (len_nil))))) (pf_b (pf_int))))))))
      (ps_1 (pq_ret (pf_bl)))
      (ps_nil))
      (ps_1 (pq_if (PW.pt (pf_or (pf_cmpT (cm_ne rfl (u64 hr)) (pf_b (pf_call k__law_refused (hr.mono (by decide)) rfl m.gl__law_refused F__law_refused.kp b__law_refused (takes_of rfl rfl rfl rfl) (pf_cons (pf_int) (pf_cons (pf_var 7) (pf_cons (pf_var 10) (pf_cons (pf_mul (pf_b (pf_n (pf_lst (pf_cons (pf_int) (pf_nil)) (by decide) (len_cons (len_nil))))) (pf_b (pf_add rfl (pf_varB 4) (pf_b (pf_int))))) (pf_nil))))) (len_cons (len_cons (len_cons (len_cons (len_nil))))))) (pf_b (pf_tup (pf_cons (pf_str) (pf_cons (pf_int) (pf_nil))) (by decide) (len_cons (len_cons (len_nil)))))) (pf_or1 (pf_cmpT (cm_ne rfl (u64 hr)) (pf_b (pf_call k__law_refused (hr.mono (by decide)) rfl m.gl__law_refused F__law_refused.kp b__law_refused (takes_of rfl rfl rfl rfl) (pf_cons (pf_int) (pf_cons (pf_var 7) (pf_cons (pf_var 10) (pf_cons (pf_n (pf_lst (pf_nil) (by decide) (len_nil))) (pf_nil))))) (len_cons (len_cons (len_cons (len_cons (len_nil))))))) (pf_b (pf_tup (pf_cons (pf_str) (pf_cons (pf_int) (pf_nil))) (by decide) (len_cons (len_cons (len_nil)))))))))
      (ps_1 (pq_ret (pf_bl)))
      (ps_nil))))))))))))))))))))))))))
      (ps_1 (pq_ret (pf_bl))))
end K42
namespace K42
open PySem PySem.Spec PyProof.Rows L2 Pf
def s_check_rule_1 (types_0 : (List (List Int))) (s_3 : Unit) (x_4 : (Int × Int)) : Res Unit :=
  (((((Res.ok ((0 : Int))).bind fun t_8 => (Res.ok (x_4.2)).bind fun t_9 => (if (decide (t_8 ≤ t_9)) = true then ((((((Res.ok (types_0)).bind fun t_5 => (Res.ok ((0 : Int))).bind fun t_6 => atR t_5 t_6)).bind fun t_7 => Res.ok (((t_7.length : Nat) : Int)))).bind fun t_10 => Res.ok ((decide (t_9 < t_10)))) else Res.ok false))).bind fun t_11 => Res.ok ((!t_11)))).bind fun b => if b = true then
  ((Res.ok (x_4.1)).bind fun k => Res.exc "BadEnd" k)
  else Res.ok (())
def s_check_rule_2 (types_0 : (List (List Int))) (s_1 : Unit) (x_2 : (Int × (List Int))) : Res Unit :=
  (((Res.ok ((!((decide ((1 : Int) ≤ ((x_2.2.length : Nat) : Int))) && (decide (((x_2.2.length : Nat) : Int) ≤ (64 : Int))))))).bind fun t_18 => (if t_18 = true then Res.ok true else ((Res.ok (((x_2.2.length : Nat) : Int))).bind fun t_16 => (((((Res.ok (types_0)).bind fun t_13 => (Res.ok ((0 : Int))).bind fun t_14 => atR t_13 t_14)).bind fun t_15 => Res.ok (((t_15.length : Nat) : Int)))).bind fun t_17 => Res.ok ((!decide (t_16 = t_17))))))).bind fun b => if b = true then
  ((Res.ok (x_2.1)).bind fun k => Res.exc "BadType" k)
  else (Res.ok ((!(List.all ((List.map (fun (worth_19 : Int) => ((decide ((0 : Int) ≤ worth_19)) && (decide (worth_19 ≤ (1000000 : Int))))) x_2.2)) id)))).bind fun b => if b = true then
  ((Res.ok (x_2.1)).bind fun k => Res.exc "BadType" k)
  else Res.ok (())
def s_check_rule (types_0 : (List (List Int))) (chosen_0 : (List Int)) : Res Unit :=
  (Res.ok ((!((decide ((1 : Int) ≤ ((types_0.length : Nat) : Int))) && (decide (((types_0.length : Nat) : Int) ≤ (6 : Int))))))).bind fun b => if b = true then
  ((Res.ok ((-(1 : Int)))).bind fun k => Res.exc "BadType" k)
  else (Res.ok ((enumI types_0))).bind fun xs_21 => (foldR (s_check_rule_2 types_0) (()) xs_21).bind fun (s_1 : Unit) =>
  (Res.ok ((enumI (cutL chosen_0 none (some (((types_0.length : Nat) : Int))))))).bind fun xs_12 => (foldR (s_check_rule_1 types_0) (()) xs_12).bind fun (s_3 : Unit) =>
  (Res.ok ((!decide (((chosen_0.length : Nat) : Int) = ((types_0.length : Nat) : Int))))).bind fun b => if b = true then
  ((Res.ok (((types_0.length : Nat) : Int))).bind fun k => Res.exc "BadEnd" k)
  else Res.ok ()
theorem t_check_rule (types_0 : (List (List Int))) (chosen_0 : (List Int)) : RR (s_check_rule types_0 chosen_0) eU (m_check_rule [((eL (eL eI)) types_0), ((eL eI) chosen_0)]) :=
  t_defM (n := 2) (j := 4) rfl rfl rfl
     (s_if rfl (t_not (t_chainP ci_le ci_le (t_i) (t_b1 (b_len (e := (eL eI))) (t_varB (e := (eL (eL eI))) (a := types_0) rfl)) (t_i)))
     (s_raise (t_e1 op_neg (t_i)))
     (s_skip (s_for (E := fun (s_1 : Unit) => ([some (.val ((eL (eL eI)) types_0)), some (.val ((eL eI) chosen_0)), none, none, none, none] : Pn)) (e := (eP eI (eL eI))) rfl [true, true, false, false, false, false] (t_b1 (b_enum (e := (eL eI))) (t_var (e := (eL (eL eI))) (a := types_0) rfl)) rfl (fun s_1 x_2 => tg_unp rfl (tg_cons (tg_set) (tg_cons (tg_set) (tg_nil)))) (fun s_1 x_2 =>
     s_if rfl (t_or (t_not (t_chainP ci_le ci_le (t_i) (t_b1 (b_len (e := eI)) (t_varB (e := (eL eI)) (a := x_2.2) rfl)) (t_i))) (t_tb (t_cmp ci_ne (t_b1 (b_len (e := eI)) (t_varB (e := (eL eI)) (a := x_2.2) rfl)) (t_b1 (b_len (e := eI)) (t_e2 (op_ix (e := (eL eI))) (t_varB (e := (eL (eL eI))) (a := types_0) rfl) (t_i))))))
     (s_raise (t_varB (e := eI) (a := x_2.1) rfl))
     (s_skip (s_last (s_if rfl (t_not (t_tb (t_b1 b_all (t_list (t_compM (e := eI) (e' := eBo) _ (fun (worth_19 : Int) => ((decide ((0 : Int) ≤ worth_19)) && (decide (worth_19 ≤ (1000000 : Int))))) (t_itL (e := eI) (t_varB (e := (eL eI)) (a := x_2.2) rfl)) (fun worth_19 => tg_set) (fun worth_19 => t_bool (t_chainP ci_le ci_le (t_i) (t_varB (e := eI) (a := worth_19) rfl) (t_i))))))))
     (s_raise (t_varB (e := eI) (a := x_2.1) rfl))
     (s_skip (s_passB (c := ()) [true, true, false, false, false, false] rfl)))))) fun s_1 =>
     s_for (E := fun (s_3 : Unit) => ([some (.val ((eL (eL eI)) types_0)), some (.val ((eL eI) chosen_0)), none, none, none, none] : Pn)) (e := (eP eI eI)) rfl [true, true, false, false, false, false] (t_b1 (b_enum (e := eI)) (t_slT (t_varB (e := (eL eI)) (a := chosen_0) rfl) (t_none) (t_asI (t_b1 (b_len (e := (eL eI))) (t_varB (e := (eL (eL eI))) (a := types_0) rfl))))) rfl (fun s_3 x_4 => tg_unp rfl (tg_cons (tg_set) (tg_cons (tg_set) (tg_nil)))) (fun s_3 x_4 =>
     s_last (s_if rfl (t_not (t_chain ci_le ci_lt (t_i) (t_varB (e := eI) (a := x_4.2) rfl) (t_b1 (b_len (e := eI)) (t_e2 (op_ix (e := (eL eI))) (t_varB (e := (eL (eL eI))) (a := types_0) rfl) (t_i)))))
     (s_raise (t_varB (e := eI) (a := x_4.1) rfl))
     (s_skip (s_passB (c := ()) [true, true, false, false, false, false] rfl)))) fun s_3 =>
     s_last (s_if rfl (t_tb (t_cmp ci_ne (t_b1 (b_len (e := eI)) (t_varB (e := (eL eI)) (a := chosen_0) rfl)) (t_b1 (b_len (e := (eL eI))) (t_varB (e := (eL (eL eI))) (a := types_0) rfl))))
     (s_raise (t_b1 (b_len (e := (eL eI))) (t_varB (e := (eL (eL eI))) (a := types_0) rfl)))
     (s_skip (s_passT (c := ()) rfl))))))


def s_likes_more (types_0 : (List (List Int))) (chosen_0 : (List Int)) (one_0 : Int) (two_0 : Int) : Res Int :=
  ((((((Res.ok (types_0)).bind fun t_22 => (Res.ok (one_0)).bind fun t_23 => atR t_22 t_23)).bind fun t_26 => (((Res.ok (chosen_0)).bind fun t_24 => (Res.ok (two_0)).bind fun t_25 => atR t_24 t_25)).bind fun t_27 => atR t_26 t_27)).bind fun t_34 => (((((Res.ok (types_0)).bind fun t_28 => (Res.ok (one_0)).bind fun t_29 => atR t_28 t_29)).bind fun t_32 => (((Res.ok (chosen_0)).bind fun t_30 => (Res.ok (one_0)).bind fun t_31 => atR t_30 t_31)).bind fun t_33 => atR t_32 t_33)).bind fun t_35 => Res.ok ((t_34 - t_35)))
theorem t_likes_more (types_0 : (List (List Int))) (chosen_0 : (List Int)) (one_0 : Int) (two_0 : Int) : RR (s_likes_more types_0 chosen_0 one_0 two_0) eI (m_likes_more [((eL (eL eI)) types_0), ((eL eI) chosen_0), (eI one_0), (eI two_0)]) :=
  t_defM (n := 4) (j := 0) rfl rfl rfl
     (s_last (s_ret (t_e2 op_sub (t_e2 (op_ix (e := eI)) (t_e2 (op_ix (e := (eL eI))) (t_varB (e := (eL (eL eI))) (a := types_0) rfl) (t_varB (e := eI) (a := one_0) rfl)) (t_e2 (op_ix (e := eI)) (t_varB (e := (eL eI)) (a := chosen_0) rfl) (t_varB (e := eI) (a := two_0) rfl))) (t_e2 (op_ix (e := eI)) (t_e2 (op_ix (e := (eL eI))) (t_varB (e := (eL (eL eI))) (a := types_0) rfl) (t_varB (e := eI) (a := one_0) rfl)) (t_e2 (op_ix (e := eI)) (t_varB (e := (eL eI)) (a := chosen_0) rfl) (t_varB (e := eI) (a := one_0) rfl))))))

def s_does_keep_1 (types_0 : (List (List Int))) (chosen_0 : (List Int)) (paid_0 : (List Int)) (x_38 : Int) (s_40 : Unit) (x_41 : Int) : Res (Fl Unit Bool) :=
  (((((Res.ok (types_0)).bind fun t_42 => (Res.ok (chosen_0)).bind fun t_43 => (Res.ok (x_38)).bind fun t_44 => (Res.ok (x_41)).bind fun t_45 => s_likes_more t_42 t_43 t_44 t_45)).bind fun t_52 => (((((Res.ok (paid_0)).bind fun t_46 => (Res.ok (x_41)).bind fun t_47 => atR t_46 t_47)).bind fun t_50 => (((Res.ok (paid_0)).bind fun t_48 => (Res.ok (x_38)).bind fun t_49 => atR t_48 t_49)).bind fun t_51 => Res.ok ((t_50 - t_51)))).bind fun t_53 => Res.ok ((decide (t_53 < t_52))))).bind fun b => if b = true then
  ((Res.ok (false)).bind fun t => Res.ok (Fl.ret t))
  else Res.ok (Fl.nx (()))
def s_does_keep_2 (types_0 : (List (List Int))) (chosen_0 : (List Int)) (paid_0 : (List Int)) (s_37 : Unit) (x_38 : Int) : Res (Fl Unit Bool) :=
  (((Res.ok (((types_0.length : Nat) : Int))).bind fun t_39 => rngR t_39)).bind fun xs_54 => seqF (forR (s_does_keep_1 types_0 chosen_0 paid_0 x_38) (()) xs_54) (fun t => Res.ok (Fl.ret t)) fun (s_40 : Unit) =>
  Res.ok (Fl.nx (()))
def s_does_keep (types_0 : (List (List Int))) (chosen_0 : (List Int)) (paid_0 : (List Int)) : Res Bool :=
  (((Res.ok (((types_0.length : Nat) : Int))).bind fun t_36 => rngR t_36)).bind fun xs_55 => seqF (forR (s_does_keep_2 types_0 chosen_0 paid_0) (()) xs_55) (fun t => Res.ok t) fun (s_37 : Unit) =>
  Res.ok (true)
theorem t_does_keep (types_0 : (List (List Int))) (chosen_0 : (List Int)) (paid_0 : (List Int)) : RR (s_does_keep types_0 chosen_0 paid_0) eBo (m_does_keep [((eL (eL eI)) types_0), ((eL eI) chosen_0), ((eL eI) paid_0)]) :=
  t_defM (n := 3) (j := 2) rfl rfl rfl
     (s_forF (E := fun (s_37 : Unit) => ([some (.val ((eL (eL eI)) types_0)), some (.val ((eL eI) chosen_0)), some (.val ((eL eI) paid_0)), none, none] : Pn)) (e := eI) (eR := eBo) rfl [true, true, true, false, false] (t_b1 b_rg1 (t_b1 (b_len (e := (eL eI))) (t_varB (e := (eL (eL eI))) (a := types_0) rfl))) rfl (fun s_37 x_38 => tg_set) (fun s_37 x_38 =>
     s_last (s_forF (E := fun (s_40 : Unit) => ([some (.val ((eL (eL eI)) types_0)), some (.val ((eL eI) chosen_0)), some (.val ((eL eI) paid_0)), some (.val (eI x_38)), none] : Pn)) (e := eI) (eR := eBo) rfl [true, true, true, true, false] (t_b1 b_rg1 (t_b1 (b_len (e := (eL eI))) (t_varB (e := (eL (eL eI))) (a := types_0) rfl))) rfl (fun s_40 x_41 => tg_set) (fun s_40 x_41 =>
     s_last (s_if rfl (t_tb (t_cmp ci_gt (t_f4 t_likes_more (t_var (e := (eL (eL eI))) (a := types_0) rfl) (t_var (e := (eL eI)) (a := chosen_0) rfl) (t_var (e := eI) (a := x_38) rfl) (t_var (e := eI) (a := x_41) rfl)) (t_e2 op_sub (t_e2 (op_ix (e := eI)) (t_varB (e := (eL eI)) (a := paid_0) rfl) (t_varB (e := eI) (a := x_41) rfl)) (t_e2 (op_ix (e := eI)) (t_varB (e := (eL eI)) (a := paid_0) rfl) (t_varB (e := eI) (a := x_38) rfl)))))
     (s_retF (t_bl))
     (s_skip (s_passF (c := ()) [true, true, true, true, false] rfl)))) retF fun s_40 =>
     s_passF (c := ()) [true, true, true, false, false] rfl)) retT fun s_37 =>
     s_last (s_ret (t_bl)))


def s_keep_truth (types_0 : (List (List Int))) (chosen_0 : (List Int)) (paid_0 : (List Int)) : Res Bool :=
  (((Res.ok (types_0)).bind fun t_56 => (Res.ok (chosen_0)).bind fun t_57 => s_check_rule t_56 t_57)).bind fun _ =>
  (Res.ok ((!decide (((paid_0.length : Nat) : Int) = ((types_0.length : Nat) : Int))))).bind fun b => if b = true then
  ((Res.ok ((0 : Int))).bind fun k => Res.exc "BadPaid" k)
  else ((Res.ok (types_0)).bind fun t_58 => (Res.ok (chosen_0)).bind fun t_59 => (Res.ok (paid_0)).bind fun t_60 => s_does_keep t_58 t_59 t_60)
theorem t_keep_truth (types_0 : (List (List Int))) (chosen_0 : (List Int)) (paid_0 : (List Int)) : RR (s_keep_truth types_0 chosen_0 paid_0) eBo (m_keep_truth [((eL (eL eI)) types_0), ((eL eI) chosen_0), ((eL eI) paid_0)]) :=
  t_defM (n := 3) (j := 0) rfl rfl rfl
     (s_expr rfl (t_f2 t_check_rule (t_var (e := (eL (eL eI))) (a := types_0) rfl) (t_var (e := (eL eI)) (a := chosen_0) rfl)) fun _ =>
     s_if rfl (t_tb (t_cmp ci_ne (t_b1 (b_len (e := eI)) (t_varB (e := (eL eI)) (a := paid_0) rfl)) (t_b1 (b_len (e := (eL eI))) (t_varB (e := (eL (eL eI))) (a := types_0) rfl))))
     (s_raise (t_i))
     (s_skip (s_last (s_ret (t_f3 t_does_keep (t_var (e := (eL (eL eI))) (a := types_0) rfl) (t_var (e := (eL eI)) (a := chosen_0) rfl) (t_var (e := (eL eI)) (a := paid_0) rfl))))))


def s_sum_round (types_0 : (List (List Int))) (chosen_0 : (List Int)) (row_0 : (List Int)) : Res Int :=
  ((((((Res.ok (((row_0.length : Nat) : Int))).bind fun t_61 => rngR t_61)).bind fun t_72 => compR (fun (k_62 : Int) => Res.ok (true)) (fun (k_62 : Int) => ((Res.ok (types_0)).bind fun t_67 => (Res.ok (chosen_0)).bind fun t_68 => (((Res.ok (row_0)).bind fun t_63 => (Res.ok ((k_62 - (1 : Int)))).bind fun t_64 => atR t_63 t_64)).bind fun t_69 => (((Res.ok (row_0)).bind fun t_65 => (Res.ok (k_62)).bind fun t_66 => atR t_65 t_66)).bind fun t_70 => s_likes_more t_67 t_68 t_69 t_70)) t_72)).bind fun t_73 => Res.ok ((List.sum t_73)))
theorem t_sum_round (types_0 : (List (List Int))) (chosen_0 : (List Int)) (row_0 : (List Int)) : RR (s_sum_round types_0 chosen_0 row_0) eI (m_sum_round [((eL (eL eI)) types_0), ((eL eI) chosen_0), ((eL eI) row_0)]) :=
  t_defM (n := 3) (j := 1) rfl rfl rfl
     (s_last (s_ret (t_b1 b_sum (t_list (t_comp (e := eI) (e' := eI) _ (fun (k_62 : Int) => Res.ok (true)) (fun (k_62 : Int) => ((Res.ok (types_0)).bind fun t_67 => (Res.ok (chosen_0)).bind fun t_68 => (((Res.ok (row_0)).bind fun t_63 => (Res.ok ((k_62 - (1 : Int)))).bind fun t_64 => atR t_63 t_64)).bind fun t_69 => (((Res.ok (row_0)).bind fun t_65 => (Res.ok (k_62)).bind fun t_66 => atR t_65 t_66)).bind fun t_70 => s_likes_more t_67 t_68 t_69 t_70)) (t_b1 b_rg1 (t_b1 (b_len (e := eI)) (t_varB (e := (eL eI)) (a := row_0) rfl))) (fun k_62 => tg_set) (fun k_62 => t_true) (fun k_62 => t_f4 t_likes_more (t_var (e := (eL (eL eI))) (a := types_0) rfl) (t_var (e := (eL eI)) (a := chosen_0) rfl) (t_e2 (op_ix (e := eI)) (t_varB (e := (eL eI)) (a := row_0) rfl) (t_e2 op_sub (t_varB (e := eI) (a := k_62) rfl) (t_i))) (t_e2 (op_ix (e := eI)) (t_varB (e := (eL eI)) (a := row_0) rfl) (t_varB (e := eI) (a := k_62) rfl))))))))


def s_gain_of_round (types_0 : (List (List Int))) (chosen_0 : (List Int)) (row_0 : (List Int)) : Res Int :=
  (((Res.ok (types_0)).bind fun t_74 => (Res.ok (chosen_0)).bind fun t_75 => s_check_rule t_74 t_75)).bind fun _ =>
  ((Res.ok (types_0)).bind fun t_76 => (Res.ok (chosen_0)).bind fun t_77 => (Res.ok (row_0)).bind fun t_78 => s_sum_round t_76 t_77 t_78)
theorem t_gain_of_round (types_0 : (List (List Int))) (chosen_0 : (List Int)) (row_0 : (List Int)) : RR (s_gain_of_round types_0 chosen_0 row_0) eI (m_gain_of_round [((eL (eL eI)) types_0), ((eL eI) chosen_0), ((eL eI) row_0)]) :=
  t_defM (n := 3) (j := 0) rfl rfl rfl
     (s_expr rfl (t_f2 t_check_rule (t_var (e := (eL (eL eI))) (a := types_0) rfl) (t_var (e := (eL eI)) (a := chosen_0) rfl)) fun _ =>
     s_last (s_ret (t_f3 t_sum_round (t_var (e := (eL (eL eI))) (a := types_0) rfl) (t_var (e := (eL eI)) (a := chosen_0) rfl) (t_var (e := (eL eI)) (a := row_0) rfl))))


def s_longer (rows_0 : (List (List Int))) (many_0 : Int) : Res (List (List Int)) :=
  ((Res.ok (rows_0)).bind fun t_88 => (comp2R (fun (row_79 : (List Int)) => Res.ok (true)) (fun (row_79 : (List Int)) => ((((((Res.ok (row_79)).bind fun t_80 => (Res.ok ((0 : Int))).bind fun t_81 => atR t_80 t_81)).bind fun t_82 => (Res.ok ((1 : Int))).bind fun t_83 => Res.ok ((t_82 + t_83)))).bind fun t_84 => (Res.ok (many_0)).bind fun t_85 => rng2R t_84 t_85)) (fun (row_79 : (List Int)) (k_86 : Int) => Res.ok ((!decide (k_86 ∈ row_79)))) (fun (row_79 : (List Int)) (k_86 : Int) => ((Res.ok ((row_79 ++ (k_86 :: ([] : List Int))))).bind fun t_87 => lenR t_87)) t_88).bind lenR)
theorem t_longer (rows_0 : (List (List Int))) (many_0 : Int) : RR (s_longer rows_0 many_0) (eL (eL eI)) (m_longer [((eL (eL eI)) rows_0), (eI many_0)]) :=
  t_defM (n := 2) (j := 2) rfl rfl rfl
     (s_last (s_ret (t_list (t_comp2 (e := (eL eI)) (e1 := eI) (e' := (eL eI)) _ _ (fun (row_79 : (List Int)) => Res.ok (true)) (fun (row_79 : (List Int)) => ((((((Res.ok (row_79)).bind fun t_80 => (Res.ok ((0 : Int))).bind fun t_81 => atR t_80 t_81)).bind fun t_82 => (Res.ok ((1 : Int))).bind fun t_83 => Res.ok ((t_82 + t_83)))).bind fun t_84 => (Res.ok (many_0)).bind fun t_85 => rng2R t_84 t_85)) (fun (row_79 : (List Int)) (k_86 : Int) => Res.ok ((!decide (k_86 ∈ row_79)))) (fun (row_79 : (List Int)) (k_86 : Int) => ((Res.ok ((row_79 ++ (k_86 :: ([] : List Int))))).bind fun t_87 => lenR t_87)) (t_itL (e := (eL eI)) (t_varB (e := (eL (eL eI))) (a := rows_0) rfl)) (fun row_79 => tg_set) (fun row_79 => t_true) (fun row_79 => t_b2 b_rg2 (t_e2 op_add (t_e2 (op_ix (e := eI)) (t_varB (e := (eL eI)) (a := row_79) rfl) (t_i)) (t_i)) (t_varB (e := eI) (a := many_0) rfl)) (fun row_79 k_86 => tg_set) (fun row_79 k_86 => t_tb (t_e2 (op_nin eI) (t_varB (e := eI) (a := k_86) rfl) (t_varB (e := (eL eI)) (a := row_79) rfl))) (fun row_79 k_86 => t_list (t_lenOk (t_lstar (t_varB (e := (eL eI)) (a := row_79) rfl) (t_lcons (t_var (e := eI) (a := k_86) rfl) (t_lnil)))))))))

def s_round_of_gains_1 (types_0 : (List (List Int))) (chosen_0 : (List Int)) (s_96 : (List (List Int))) : Res (Fl (List (List Int)) (Option (List Int))) :=
  (((Res.ok (s_96)).bind fun t_99 => (Res.ok (((types_0.length : Nat) : Int))).bind fun t_100 => s_longer t_99 t_100)).bind fun (rows_98 : (List (List Int))) =>
  (((Res.ok (rows_98)).bind fun t_109 => compR (fun (row_102 : (List Int)) => ((((Res.ok (types_0)).bind fun t_103 => (Res.ok (chosen_0)).bind fun t_104 => (Res.ok (row_102)).bind fun t_105 => s_sum_round t_103 t_104 t_105)).bind fun t_106 => (Res.ok ((0 : Int))).bind fun t_107 => Res.ok ((decide (t_107 < t_106))))) (fun (row_102 : (List Int)) => Res.ok (row_102)) t_109)).bind fun (good_101 : (List (List Int))) =>
  (Res.ok ((decide ((0 : Int) < ((good_101.length : Nat) : Int))))).bind fun b => if b = true then
  ((((((Res.ok (good_101)).bind fun t_110 => minER (eL eI) (ltL ltI) t_110)).bind fun t_111 => Res.ok ((some (t_111))))).bind fun t => Res.ok (Fl.ret t))
  else Res.ok (Fl.nx (rows_98))
def s_round_of_gains (types_0 : (List (List Int))) (chosen_0 : (List Int)) : Res (Option (List Int)) :=
  (((Res.ok (types_0)).bind fun t_89 => (Res.ok (chosen_0)).bind fun t_90 => s_check_rule t_89 t_90)).bind fun _ =>
  (((((Res.ok (((types_0.length : Nat) : Int))).bind fun t_92 => rngR t_92)).bind fun t_95 => Res.ok ((List.map (fun (k_93 : Int) => (k_93 :: ([] : List Int))) t_95)))).bind fun (rows_91 : (List (List Int))) =>
  seqF (whileRF (fun (s_96 : (List (List Int))) => Res.ok ((decide ((0 : Int) < ((s_96.length : Nat) : Int))))) (s_round_of_gains_1 types_0 chosen_0) 100000 (rows_91)) (fun t => Res.ok t) fun (s_96 : (List (List Int))) =>
  Res.ok ((none : (Option (List Int))))
theorem t_round_of_gains (types_0 : (List (List Int))) (chosen_0 : (List Int)) : RR (s_round_of_gains types_0 chosen_0) (eO (eL eI)) (m_round_of_gains [((eL (eL eI)) types_0), ((eL eI) chosen_0)]) :=
  t_defM (n := 2) (j := 4) rfl rfl rfl
     (s_expr rfl (t_f2 t_check_rule (t_var (e := (eL (eL eI))) (a := types_0) rfl) (t_var (e := (eL eI)) (a := chosen_0) rfl)) fun _ =>
     s_set (e := (eL (eL eI))) rfl (t_list (t_compM (e := eI) (e' := (eL eI)) _ (fun (k_93 : Int) => (k_93 :: ([] : List Int))) (t_b1 b_rg1 (t_b1 (b_len (e := (eL eI))) (t_varB (e := (eL (eL eI))) (a := types_0) rfl))) (fun k_93 => tg_set) (fun k_93 => t_list (t_lcons (t_var (e := eI) (a := k_93) rfl) (t_lnil))))) fun rows_91 =>
     s_whileF (E := fun (s_96 : (List (List Int))) => ([some (.val ((eL (eL eI)) types_0)), some (.val ((eL eI) chosen_0)), some (.val ((eL (eL eI)) s_96)), none, none, none] : Pn)) (eR := (eO (eL eI))) rfl [true, true, true, false, false, false] rfl (fun s_96 => t_tb (t_cmp ci_gt (t_b1 (b_len (e := (eL eI))) (t_varB (e := (eL (eL eI))) (a := s_96) rfl)) (t_i))) (fun s_96 =>
     s_set (e := (eL (eL eI))) rfl (t_f2 t_longer (t_var (e := (eL (eL eI))) (a := s_96) rfl) (t_b1 (b_len (e := (eL eI))) (t_varB (e := (eL (eL eI))) (a := types_0) rfl))) fun rows_98 =>
     s_set (e := (eL (eL eI))) rfl (t_list (t_comp (e := (eL eI)) (e' := (eL eI)) _ (fun (row_102 : (List Int)) => ((((Res.ok (types_0)).bind fun t_103 => (Res.ok (chosen_0)).bind fun t_104 => (Res.ok (row_102)).bind fun t_105 => s_sum_round t_103 t_104 t_105)).bind fun t_106 => (Res.ok ((0 : Int))).bind fun t_107 => Res.ok ((decide (t_107 < t_106))))) (fun (row_102 : (List Int)) => Res.ok (row_102)) (t_itL (e := (eL eI)) (t_varB (e := (eL (eL eI))) (a := rows_98) rfl)) (fun row_102 => tg_set) (fun row_102 => t_tb (t_cmp ci_gt (t_f3 t_sum_round (t_var (e := (eL (eL eI))) (a := types_0) rfl) (t_var (e := (eL eI)) (a := chosen_0) rfl) (t_var (e := (eL eI)) (a := row_102) rfl)) (t_i))) (fun row_102 => t_var (e := (eL eI)) (a := row_102) rfl))) fun good_101 =>
     s_last (s_if rfl (t_tb (t_cmp ci_gt (t_b1 (b_len (e := (eL eI))) (t_varB (e := (eL (eL eI))) (a := good_101) rfl)) (t_i)))
     (s_retF (t_some (t_b1 (b_minT (e := (eL eI)) (lo_L lo_I)) (t_varB (e := (eL (eL eI))) (a := good_101) rfl))))
     (s_skip (s_passF (c := rows_98) [true, true, true, false, false, false] rfl)))) retT fun s_96 =>
     s_last (s_ret (t_nonO (e := (eL eI)))))

def s_greatest_payments_1 (types_0 : (List (List Int))) (chosen_0 : (List Int)) (x_139 : Int) (s_141 : (List Int)) (x_142 : Int) : Res (List Int) :=
  (((((Res.ok (s_141)).bind fun t_143 => (Res.ok (x_142)).bind fun t_144 => atR t_143 t_144)).bind fun t_153 => (((((Res.ok (s_141)).bind fun t_145 => (Res.ok (x_139)).bind fun t_146 => atR t_145 t_146)).bind fun t_151 => (((Res.ok (types_0)).bind fun t_147 => (Res.ok (chosen_0)).bind fun t_148 => (Res.ok (x_142)).bind fun t_149 => (Res.ok (x_139)).bind fun t_150 => s_likes_more t_147 t_148 t_149 t_150)).bind fun t_152 => Res.ok ((t_151 - t_152)))).bind fun t_154 => Res.ok ((min t_153 t_154)))).bind fun a_156 => (Res.ok (x_142)).bind fun j_157 => (putR s_141 j_157 a_156).bind fun (found_155 : (List Int)) =>
  Res.ok (found_155)
def s_greatest_payments_2 (types_0 : (List (List Int))) (chosen_0 : (List Int)) (many_114 : Int) (s_138 : (List Int)) (x_139 : Int) : Res (List Int) :=
  (((Res.ok (many_114)).bind fun t_140 => rngR t_140)).bind fun xs_158 => (foldR (s_greatest_payments_1 types_0 chosen_0 x_139) (s_138) xs_158).bind fun (s_141 : (List Int)) =>
  Res.ok (s_141)
def s_greatest_payments_3 (types_0 : (List (List Int))) (chosen_0 : (List Int)) (many_114 : Int) (s_126 : (List Int)) (x_127 : Int) : Res (List Int) :=
  (((Res.ok (many_114)).bind fun t_137 => rngR t_137)).bind fun xs_159 => (foldR (s_greatest_payments_2 types_0 chosen_0 many_114) (s_126) xs_159).bind fun (s_138 : (List Int)) =>
  Res.ok (s_138)
def s_greatest_payments (types_0 : (List (List Int))) (chosen_0 : (List Int)) : Res (Option (List Int)) :=
  (((Res.ok (types_0)).bind fun t_112 => (Res.ok (chosen_0)).bind fun t_113 => s_check_rule t_112 t_113)).bind fun _ =>
  (Res.ok (((types_0.length : Nat) : Int))).bind fun (many_114 : Int) =>
  (((((Res.ok (many_114)).bind fun t_116 => rngR t_116)).bind fun t_124 => compR (fun (k_117 : Int) => Res.ok (true)) (fun (k_117 : Int) => ((((Res.ok (types_0)).bind fun t_118 => (Res.ok (chosen_0)).bind fun t_119 => (Res.ok (k_117)).bind fun t_120 => (Res.ok ((0 : Int))).bind fun t_121 => s_likes_more t_118 t_119 t_120 t_121)).bind fun t_122 => Res.ok ((-t_122)))) t_124)).bind fun (found_115 : (List Int)) =>
  (((Res.ok (many_114)).bind fun t_125 => rngR t_125)).bind fun xs_160 => (foldR (s_greatest_payments_3 types_0 chosen_0 many_114) (found_115) xs_160).bind fun (s_126 : (List Int)) =>
  ((((((Res.ok (types_0)).bind fun t_132 => (Res.ok (chosen_0)).bind fun t_133 => (Res.ok (s_126)).bind fun t_134 => s_does_keep t_132 t_133 t_134)).bind fun t_135 => (if t_135 = true then ((((Res.ok (s_126)).bind fun t_128 => (Res.ok ((0 : Int))).bind fun t_129 => atR t_128 t_129)).bind fun t_130 => (Res.ok ((0 : Int))).bind fun t_131 => Res.ok ((decide (t_130 = t_131)))) else Res.ok false))).bind fun t_136 => (if t_136 = true then Res.ok ((some (s_126))) else Res.ok ((none : (Option (List Int))))))
theorem t_greatest_payments (types_0 : (List (List Int))) (chosen_0 : (List Int)) : RR (s_greatest_payments types_0 chosen_0) (eO (eL eI)) (m_greatest_payments [((eL (eL eI)) types_0), ((eL eI) chosen_0)]) :=
  t_defM (n := 2) (j := 6) rfl rfl rfl
     (s_expr rfl (t_f2 t_check_rule (t_var (e := (eL (eL eI))) (a := types_0) rfl) (t_var (e := (eL eI)) (a := chosen_0) rfl)) fun _ =>
     s_set (e := eI) rfl (t_b1 (b_len (e := (eL eI))) (t_varB (e := (eL (eL eI))) (a := types_0) rfl)) fun many_114 =>
     s_setN (e := eI) rfl (t_comp (e := eI) (e' := eI) _ (fun (k_117 : Int) => Res.ok (true)) (fun (k_117 : Int) => ((((Res.ok (types_0)).bind fun t_118 => (Res.ok (chosen_0)).bind fun t_119 => (Res.ok (k_117)).bind fun t_120 => (Res.ok ((0 : Int))).bind fun t_121 => s_likes_more t_118 t_119 t_120 t_121)).bind fun t_122 => Res.ok ((-t_122)))) (t_b1 b_rg1 (t_varB (e := eI) (a := many_114) rfl)) (fun k_117 => tg_set) (fun k_117 => t_true) (fun k_117 => t_e1 op_neg (t_f4 t_likes_more (t_var (e := (eL (eL eI))) (a := types_0) rfl) (t_var (e := (eL eI)) (a := chosen_0) rfl) (t_var (e := eI) (a := k_117) rfl) (t_i)))) fun found_115 =>
     s_for (E := fun (s_126 : (List Int)) => ([some (.val ((eL (eL eI)) types_0)), some (.val ((eL eI) chosen_0)), some (.val (eI many_114)), some (.own (List.map eI s_126)), none, none, none, none] : Pn)) (e := eI) rfl [true, true, true, true, false, false, false, false] (t_b1 b_rg1 (t_varB (e := eI) (a := many_114) rfl)) rfl (fun s_126 x_127 => tg_set) (fun s_126 x_127 =>
     s_last (s_for (E := fun (s_138 : (List Int)) => ([some (.val ((eL (eL eI)) types_0)), some (.val ((eL eI) chosen_0)), some (.val (eI many_114)), some (.own (List.map eI s_138)), none, none, none, none] : Pn)) (e := eI) rfl [true, true, true, true, false, false, false, false] (t_b1 b_rg1 (t_varB (e := eI) (a := many_114) rfl)) rfl (fun s_138 x_139 => tg_set) (fun s_138 x_139 =>
     s_last (s_for (E := fun (s_141 : (List Int)) => ([some (.val ((eL (eL eI)) types_0)), some (.val ((eL eI) chosen_0)), some (.val (eI many_114)), some (.own (List.map eI s_141)), none, some (.val (eI x_139)), none, none] : Pn)) (e := eI) rfl [true, true, true, true, false, true, false, false] (t_b1 b_rg1 (t_varB (e := eI) (a := many_114) rfl)) rfl (fun s_141 x_142 => tg_set) (fun s_141 x_142 =>
     s_last (s_put (e := eI) (xs := s_141) rfl rfl (t_varB (e := eI) (a := x_142) rfl) (t_b2 b_min2 (t_e2 (op_ix (e := eI)) (t_varO (e := eI) (a := s_141) rfl) (t_varB (e := eI) (a := x_142) rfl)) (t_e2 op_sub (t_e2 (op_ix (e := eI)) (t_varO (e := eI) (a := s_141) rfl) (t_varB (e := eI) (a := x_139) rfl)) (t_f4 t_likes_more (t_var (e := (eL (eL eI))) (a := types_0) rfl) (t_var (e := (eL eI)) (a := chosen_0) rfl) (t_var (e := eI) (a := x_142) rfl) (t_var (e := eI) (a := x_139) rfl)))) fun found_155 =>
     s_passB (c := found_155) [true, true, true, true, false, true, false, false] rfl)) fun s_141 =>
     s_passB (c := s_141) [true, true, true, true, false, false, false, false] rfl)) fun s_138 =>
     s_passB (c := s_138) [true, true, true, true, false, false, false, false] rfl)) fun s_126 =>
     s_last (s_frz1 (e := eI) (xs := s_126) rfl (s_frz0 (s_ret (t_if (t_and (t_tb (t_f3 t_does_keep (t_var (e := (eL (eL eI))) (a := types_0) rfl) (t_var (e := (eL eI)) (a := chosen_0) rfl) (t_var (e := (eL eI)) (a := s_126) rfl))) (t_tb (t_cmp ci_eq (t_e2 (op_ix (e := eI)) (t_varB (e := (eL eI)) (a := s_126) rfl) (t_i)) (t_i)))) (t_some (t_var (e := (eL eI)) (a := s_126) rfl)) (t_nonO (e := (eL eI))))))))

theorem e__law_draws : m__law_draws = LawC.m__law_draws := Eq.trans rfl rfl
theorem t__law_draws (script_0 : (List Int)) : RR (TyC.s__law_draws script_0) (eL eI) (m__law_draws [(eScr script_0)]) := by
  rw [e__law_draws]; exact TyC.t__law_draws script_0

theorem e__law_mix : m__law_mix = LawC.m__law_mix := Eq.trans rfl rfl
theorem t__law_mix (draws_0 : (List Int)) (k_0 : Int) (many_0 : Int) : RR (TyC.s__law_mix draws_0 k_0 many_0) eI (m__law_mix [((eL eI) draws_0), (eI k_0), (eI many_0)]) := by
  rw [e__law_mix]; exact TyC.t__law_mix draws_0 k_0 many_0

def s__law_rows_1 (many_0 : Int) (s_165 : ((List (List Int)) × (List (List Int)))) (x_166 : Int) : Res ((List (List Int)) × (List (List Int))) :=
  (((Res.ok (s_165.1)).bind fun t_169 => (((Res.ok (s_165.2)).bind fun t_168 => sortER (eL eI) (ltL ltI) t_168)).bind fun t_170 => catR t_169 t_170)).bind fun (found_167 : (List (List Int))) =>
  (((((Res.ok (s_165.2)).bind fun t_180 => compR (fun (row_172 : (List Int)) => Res.ok (true)) (fun (row_172 : (List Int)) => ((((Res.ok (many_0)).bind fun t_173 => rngR t_173)).bind fun t_178 => compR (fun (one_174 : Int) => Res.ok ((!decide (one_174 ∈ row_172)))) (fun (one_174 : Int) => ((Res.ok (row_172)).bind fun t_175 => (Res.ok ((one_174 :: ([] : List Int)))).bind fun t_176 => catR t_175 t_176)) t_178)) t_180)).bind fun t_181 => (Res.ok (([] : List (List Int)))).bind fun t_182 => sumLR t_181 t_182)).bind fun (here_171 : (List (List Int))) =>
  Res.ok ((found_167, here_171))
def s__law_rows (many_0 : Int) (first_0 : (List Int)) : Res (List (List Int)) :=
  (Res.ok ((([] : List (List Int)), (List.map (fun (one_162 : Int) => (one_162 :: ([] : List Int))) first_0), ()))).bind fun (p_161 : ((List (List Int)) × (List (List Int)) × Unit)) =>
  (((Res.ok (many_0)).bind fun t_164 => rngR t_164)).bind fun xs_183 => (foldR (s__law_rows_1 many_0) ((p_161.1, p_161.2.1)) xs_183).bind fun (s_165 : ((List (List Int)) × (List (List Int)))) =>
  Res.ok (s_165.1)
theorem t__law_rows (many_0 : Int) (first_0 : (List Int)) : RR (s__law_rows many_0 first_0) (eL (eL eI)) (m__law_rows [(eI many_0), ((eL eI) first_0)]) :=
  t_defM (n := 2) (j := 5) rfl rfl rfl
     (s_par rfl (tm_val (e := (eL (eL eI))) (t_list (t_lnil)) (tm_val (e := (eL (eL eI))) (t_list (t_compM (e := eI) (e' := (eL eI)) _ (fun (one_162 : Int) => (one_162 :: ([] : List Int))) (t_itL (e := eI) (t_varB (e := (eL eI)) (a := first_0) rfl)) (fun one_162 => tg_set) (fun one_162 => t_list (t_lcons (t_var (e := eI) (a := one_162) rfl) (t_lnil))))) (tm_nil))) (fun _ => rfl) fun p_161 =>
     s_for (E := fun (s_165 : ((List (List Int)) × (List (List Int)))) => ([some (.val (eI many_0)), none, some (.val ((eL (eL eI)) s_165.1)), some (.val ((eL (eL eI)) s_165.2)), none, none, none] : Pn)) (e := eI) rfl [true, false, true, true, false, false, false] (t_b1 b_rg1 (t_varB (e := eI) (a := many_0) rfl)) rfl (fun s_165 x_166 => tg_set) (fun s_165 x_166 =>
     s_set (e := (eL (eL eI))) rfl (t_e2 (op_cat (e := (eL eI))) (t_varB (e := (eL (eL eI))) (a := s_165.1) rfl) (t_list (t_b1 (b_sortT (e := (eL eI)) (lo_L lo_I)) (t_varB (e := (eL (eL eI))) (a := s_165.2) rfl)))) fun found_167 =>
     s_last (s_set (e := (eL (eL eI))) rfl (t_b2 (b_sumL (e := (eL eI))) (t_list (t_comp (e := (eL eI)) (e' := (eL (eL eI))) _ (fun (row_172 : (List Int)) => Res.ok (true)) (fun (row_172 : (List Int)) => ((((Res.ok (many_0)).bind fun t_173 => rngR t_173)).bind fun t_178 => compR (fun (one_174 : Int) => Res.ok ((!decide (one_174 ∈ row_172)))) (fun (one_174 : Int) => ((Res.ok (row_172)).bind fun t_175 => (Res.ok ((one_174 :: ([] : List Int)))).bind fun t_176 => catR t_175 t_176)) t_178)) (t_itL (e := (eL eI)) (t_varB (e := (eL (eL eI))) (a := s_165.2) rfl)) (fun row_172 => tg_set) (fun row_172 => t_true) (fun row_172 => t_list (t_comp (e := eI) (e' := (eL eI)) _ (fun (one_174 : Int) => Res.ok ((!decide (one_174 ∈ row_172)))) (fun (one_174 : Int) => ((Res.ok (row_172)).bind fun t_175 => (Res.ok ((one_174 :: ([] : List Int)))).bind fun t_176 => catR t_175 t_176)) (t_b1 b_rg1 (t_varB (e := eI) (a := many_0) rfl)) (fun one_174 => tg_set) (fun one_174 => t_tb (t_e2 (op_nin eI) (t_varB (e := eI) (a := one_174) rfl) (t_varB (e := (eL eI)) (a := row_172) rfl))) (fun one_174 => t_e2 (op_cat (e := eI)) (t_varB (e := (eL eI)) (a := row_172) rfl) (t_list (t_lcons (t_var (e := eI) (a := one_174) rfl) (t_lnil)))))))) (t_list (t_lnil))) fun here_171 =>
     s_passB (c := (found_167, here_171)) [true, false, true, true, false, false, false] rfl)) fun s_165 =>
     s_last (s_ret (t_var (e := (eL (eL eI))) (a := s_165.1) rfl)))


def s__law_more (types_0 : (List (List Int))) (chosen_0 : (List Int)) (one_0 : Int) (two_0 : Int) : Res Int :=
  ((((((Res.ok (types_0)).bind fun t_184 => (Res.ok (one_0)).bind fun t_185 => atR t_184 t_185)).bind fun t_188 => (((Res.ok (chosen_0)).bind fun t_186 => (Res.ok (two_0)).bind fun t_187 => atR t_186 t_187)).bind fun t_189 => atR t_188 t_189)).bind fun t_196 => (((((Res.ok (types_0)).bind fun t_190 => (Res.ok (one_0)).bind fun t_191 => atR t_190 t_191)).bind fun t_194 => (((Res.ok (chosen_0)).bind fun t_192 => (Res.ok (one_0)).bind fun t_193 => atR t_192 t_193)).bind fun t_195 => atR t_194 t_195)).bind fun t_197 => Res.ok ((t_196 - t_197)))
theorem t__law_more (types_0 : (List (List Int))) (chosen_0 : (List Int)) (one_0 : Int) (two_0 : Int) : RR (s__law_more types_0 chosen_0 one_0 two_0) eI (m__law_more [((eL (eL eI)) types_0), ((eL eI) chosen_0), (eI one_0), (eI two_0)]) :=
  t_defM (n := 4) (j := 0) rfl rfl rfl
     (s_last (s_ret (t_e2 op_sub (t_e2 (op_ix (e := eI)) (t_e2 (op_ix (e := (eL eI))) (t_varB (e := (eL (eL eI))) (a := types_0) rfl) (t_varB (e := eI) (a := one_0) rfl)) (t_e2 (op_ix (e := eI)) (t_varB (e := (eL eI)) (a := chosen_0) rfl) (t_varB (e := eI) (a := two_0) rfl))) (t_e2 (op_ix (e := eI)) (t_e2 (op_ix (e := (eL eI))) (t_varB (e := (eL (eL eI))) (a := types_0) rfl) (t_varB (e := eI) (a := one_0) rfl)) (t_e2 (op_ix (e := eI)) (t_varB (e := (eL eI)) (a := chosen_0) rfl) (t_varB (e := eI) (a := one_0) rfl))))))


def s__law_gain (types_0 : (List (List Int))) (chosen_0 : (List Int)) (row_0 : (List Int)) : Res Int :=
  ((((((Res.ok (((row_0.length : Nat) : Int))).bind fun t_198 => rngR t_198)).bind fun t_211 => compR (fun (t_199 : Int) => Res.ok (true)) (fun (t_199 : Int) => ((Res.ok (types_0)).bind fun t_206 => (Res.ok (chosen_0)).bind fun t_207 => (((Res.ok (row_0)).bind fun t_200 => (Res.ok (t_199)).bind fun t_201 => atR t_200 t_201)).bind fun t_208 => (((((Res.ok (row_0)).bind fun t_202 => (Res.ok ((cutL row_0 none (some ((1 : Int)))))).bind fun t_203 => catR t_202 t_203)).bind fun t_204 => (Res.ok ((t_199 + (1 : Int)))).bind fun t_205 => atR t_204 t_205)).bind fun t_209 => s__law_more t_206 t_207 t_208 t_209)) t_211)).bind fun t_212 => Res.ok ((List.sum t_212)))
theorem t__law_gain (types_0 : (List (List Int))) (chosen_0 : (List Int)) (row_0 : (List Int)) : RR (s__law_gain types_0 chosen_0 row_0) eI (m__law_gain [((eL (eL eI)) types_0), ((eL eI) chosen_0), ((eL eI) row_0)]) :=
  t_defM (n := 3) (j := 1) rfl rfl rfl
     (s_last (s_ret (t_b1 b_sum (t_list (t_comp (e := eI) (e' := eI) _ (fun (t_199 : Int) => Res.ok (true)) (fun (t_199 : Int) => ((Res.ok (types_0)).bind fun t_206 => (Res.ok (chosen_0)).bind fun t_207 => (((Res.ok (row_0)).bind fun t_200 => (Res.ok (t_199)).bind fun t_201 => atR t_200 t_201)).bind fun t_208 => (((((Res.ok (row_0)).bind fun t_202 => (Res.ok ((cutL row_0 none (some ((1 : Int)))))).bind fun t_203 => catR t_202 t_203)).bind fun t_204 => (Res.ok ((t_199 + (1 : Int)))).bind fun t_205 => atR t_204 t_205)).bind fun t_209 => s__law_more t_206 t_207 t_208 t_209)) (t_b1 b_rg1 (t_b1 (b_len (e := eI)) (t_varB (e := (eL eI)) (a := row_0) rfl))) (fun t_199 => tg_set) (fun t_199 => t_true) (fun t_199 => t_f4 t__law_more (t_var (e := (eL (eL eI))) (a := types_0) rfl) (t_var (e := (eL eI)) (a := chosen_0) rfl) (t_e2 (op_ix (e := eI)) (t_varB (e := (eL eI)) (a := row_0) rfl) (t_varB (e := eI) (a := t_199) rfl)) (t_e2 (op_ix (e := eI)) (t_e2 (op_cat (e := eI)) (t_varB (e := (eL eI)) (a := row_0) rfl) (t_slT (t_varB (e := (eL eI)) (a := row_0) rfl) (t_none) (t_asI (t_i)))) (t_e2 op_add (t_varB (e := eI) (a := t_199) rfl) (t_i)))))))))


def s__law_keeps (types_0 : (List (List Int))) (chosen_0 : (List Int)) (paid_0 : (List Int)) : Res Bool :=
  (Res.ok (((types_0.length : Nat) : Int))).bind fun (many_213 : Int) =>
  ((((((Res.ok (many_213)).bind fun t_214 => rngR t_214)).bind fun t_235 => compR (fun (one_215 : Int) => ((((((Res.ok (many_213)).bind fun t_216 => rngR t_216)).bind fun t_231 => compR (fun (two_217 : Int) => ((((Res.ok (types_0)).bind fun t_218 => (Res.ok (chosen_0)).bind fun t_219 => (Res.ok (one_215)).bind fun t_220 => (Res.ok (two_217)).bind fun t_221 => s__law_more t_218 t_219 t_220 t_221)).bind fun t_228 => (((((Res.ok (paid_0)).bind fun t_222 => (Res.ok (two_217)).bind fun t_223 => atR t_222 t_223)).bind fun t_226 => (((Res.ok (paid_0)).bind fun t_224 => (Res.ok (one_215)).bind fun t_225 => atR t_224 t_225)).bind fun t_227 => Res.ok ((t_226 - t_227)))).bind fun t_229 => Res.ok ((decide (t_229 < t_228))))) (fun (two_217 : Int) => Res.ok (two_217)) t_231)).bind fun t_232 => (Res.ok (([] : List Int))).bind fun t_233 => Res.ok ((!decide (t_232 = t_233))))) (fun (one_215 : Int) => Res.ok (one_215)) t_235)).bind fun t_236 => (Res.ok (([] : List Int))).bind fun t_237 => Res.ok ((decide (t_236 = t_237))))
theorem t__law_keeps (types_0 : (List (List Int))) (chosen_0 : (List Int)) (paid_0 : (List Int)) : RR (s__law_keeps types_0 chosen_0 paid_0) eBo (m__law_keeps [((eL (eL eI)) types_0), ((eL eI) chosen_0), ((eL eI) paid_0)]) :=
  t_defM (n := 3) (j := 3) rfl rfl rfl
     (s_set (e := eI) rfl (t_b1 (b_len (e := (eL eI))) (t_varB (e := (eL (eL eI))) (a := types_0) rfl)) fun many_213 =>
     s_last (s_ret (t_e2 (op_eq (eL eI)) (t_list (t_comp (e := eI) (e' := eI) _ (fun (one_215 : Int) => ((((((Res.ok (many_213)).bind fun t_216 => rngR t_216)).bind fun t_231 => compR (fun (two_217 : Int) => ((((Res.ok (types_0)).bind fun t_218 => (Res.ok (chosen_0)).bind fun t_219 => (Res.ok (one_215)).bind fun t_220 => (Res.ok (two_217)).bind fun t_221 => s__law_more t_218 t_219 t_220 t_221)).bind fun t_228 => (((((Res.ok (paid_0)).bind fun t_222 => (Res.ok (two_217)).bind fun t_223 => atR t_222 t_223)).bind fun t_226 => (((Res.ok (paid_0)).bind fun t_224 => (Res.ok (one_215)).bind fun t_225 => atR t_224 t_225)).bind fun t_227 => Res.ok ((t_226 - t_227)))).bind fun t_229 => Res.ok ((decide (t_229 < t_228))))) (fun (two_217 : Int) => Res.ok (two_217)) t_231)).bind fun t_232 => (Res.ok (([] : List Int))).bind fun t_233 => Res.ok ((!decide (t_232 = t_233))))) (fun (one_215 : Int) => Res.ok (one_215)) (t_b1 b_rg1 (t_varB (e := eI) (a := many_213) rfl)) (fun one_215 => tg_set) (fun one_215 => t_tb (t_e2 (op_ne (eL eI)) (t_list (t_comp (e := eI) (e' := eI) _ (fun (two_217 : Int) => ((((Res.ok (types_0)).bind fun t_218 => (Res.ok (chosen_0)).bind fun t_219 => (Res.ok (one_215)).bind fun t_220 => (Res.ok (two_217)).bind fun t_221 => s__law_more t_218 t_219 t_220 t_221)).bind fun t_228 => (((((Res.ok (paid_0)).bind fun t_222 => (Res.ok (two_217)).bind fun t_223 => atR t_222 t_223)).bind fun t_226 => (((Res.ok (paid_0)).bind fun t_224 => (Res.ok (one_215)).bind fun t_225 => atR t_224 t_225)).bind fun t_227 => Res.ok ((t_226 - t_227)))).bind fun t_229 => Res.ok ((decide (t_229 < t_228))))) (fun (two_217 : Int) => Res.ok (two_217)) (t_b1 b_rg1 (t_varB (e := eI) (a := many_213) rfl)) (fun two_217 => tg_set) (fun two_217 => t_tb (t_cmp ci_gt (t_f4 t__law_more (t_var (e := (eL (eL eI))) (a := types_0) rfl) (t_var (e := (eL eI)) (a := chosen_0) rfl) (t_var (e := eI) (a := one_215) rfl) (t_var (e := eI) (a := two_217) rfl)) (t_e2 op_sub (t_e2 (op_ix (e := eI)) (t_varB (e := (eL eI)) (a := paid_0) rfl) (t_varB (e := eI) (a := two_217) rfl)) (t_e2 (op_ix (e := eI)) (t_varB (e := (eL eI)) (a := paid_0) rfl) (t_varB (e := eI) (a := one_215) rfl))))) (fun two_217 => t_var (e := eI) (a := two_217) rfl))) (t_list (t_lnil)))) (fun one_215 => t_var (e := eI) (a := one_215) rfl))) (t_list (t_lnil)))))

def s__law_greatest_1 (types_0 : (List (List Int))) (chosen_0 : (List Int)) (s_243 : (List Int)) (x_244 : Int) : Res (List Int) :=
  (((((Res.ok (((types_0.length : Nat) : Int))).bind fun t_246 => (Res.ok (((0 : Int) :: ([] : List Int)))).bind fun t_247 => s__law_rows t_246 t_247)).bind fun t_269 => compR (fun (row_248 : (List Int)) => ((((Res.ok (row_248)).bind fun t_249 => (Res.ok ((-(1 : Int)))).bind fun t_250 => atR t_249 t_250)).bind fun t_251 => (Res.ok (x_244)).bind fun t_252 => Res.ok ((decide (t_251 = t_252))))) (fun (row_248 : (List Int)) => ((((((Res.ok ((1 : Int))).bind fun t_253 => (Res.ok (((row_248.length : Nat) : Int))).bind fun t_254 => rng2R t_253 t_254)).bind fun t_266 => compR (fun (t_255 : Int) => Res.ok (true)) (fun (t_255 : Int) => ((((Res.ok (types_0)).bind fun t_260 => (Res.ok (chosen_0)).bind fun t_261 => (((Res.ok (row_248)).bind fun t_256 => (Res.ok (t_255)).bind fun t_257 => atR t_256 t_257)).bind fun t_262 => (((Res.ok (row_248)).bind fun t_258 => (Res.ok ((t_255 - (1 : Int)))).bind fun t_259 => atR t_258 t_259)).bind fun t_263 => s__law_more t_260 t_261 t_262 t_263)).bind fun t_264 => Res.ok ((-t_264)))) t_266)).bind fun t_267 => Res.ok ((List.sum t_267)))) t_269)).bind fun (sums_245 : (List Int)) =>
  (((Res.ok (sums_245)).bind fun t_270 => ofO (minL t_270))).bind fun a_272 => (Res.ok (x_244)).bind fun j_273 => (putR s_243 j_273 a_272).bind fun (found_271 : (List Int)) =>
  Res.ok (found_271)
def s__law_greatest (types_0 : (List (List Int))) (chosen_0 : (List Int)) : Res (List Int) :=
  (((Res.ok (((0 : Int) :: ([] : List Int)))).bind fun t_239 => (Res.ok (((types_0.length : Nat) : Int))).bind fun t_240 => repR t_239 t_240)).bind fun (found_238 : (List Int)) =>
  (((Res.ok ((1 : Int))).bind fun t_241 => (Res.ok (((types_0.length : Nat) : Int))).bind fun t_242 => rng2R t_241 t_242)).bind fun xs_274 => (foldR (s__law_greatest_1 types_0 chosen_0) (found_238) xs_274).bind fun (s_243 : (List Int)) =>
  Res.ok (s_243)
theorem t__law_greatest (types_0 : (List (List Int))) (chosen_0 : (List Int)) : RR (s__law_greatest types_0 chosen_0) (eL eI) (m__law_greatest [((eL (eL eI)) types_0), ((eL eI) chosen_0)]) :=
  t_defM (n := 2) (j := 5) rfl rfl rfl
     (s_setN (e := eI) rfl (t_e2 (op_repN (e := eI)) (t_list (t_lcons (t_i) (t_lnil))) (t_b1 (b_len (e := (eL eI))) (t_varB (e := (eL (eL eI))) (a := types_0) rfl))) fun found_238 =>
     s_for (E := fun (s_243 : (List Int)) => ([some (.val ((eL (eL eI)) types_0)), some (.val ((eL eI) chosen_0)), some (.own (List.map eI s_243)), none, none, none, none] : Pn)) (e := eI) rfl [true, true, true, false, false, false, false] (t_b2 b_rg2 (t_i) (t_b1 (b_len (e := (eL eI))) (t_varB (e := (eL (eL eI))) (a := types_0) rfl))) rfl (fun s_243 x_244 => tg_set) (fun s_243 x_244 =>
     s_set (e := (eL eI)) rfl (t_list (t_comp (e := (eL eI)) (e' := eI) _ (fun (row_248 : (List Int)) => ((((Res.ok (row_248)).bind fun t_249 => (Res.ok ((-(1 : Int)))).bind fun t_250 => atR t_249 t_250)).bind fun t_251 => (Res.ok (x_244)).bind fun t_252 => Res.ok ((decide (t_251 = t_252))))) (fun (row_248 : (List Int)) => ((((((Res.ok ((1 : Int))).bind fun t_253 => (Res.ok (((row_248.length : Nat) : Int))).bind fun t_254 => rng2R t_253 t_254)).bind fun t_266 => compR (fun (t_255 : Int) => Res.ok (true)) (fun (t_255 : Int) => ((((Res.ok (types_0)).bind fun t_260 => (Res.ok (chosen_0)).bind fun t_261 => (((Res.ok (row_248)).bind fun t_256 => (Res.ok (t_255)).bind fun t_257 => atR t_256 t_257)).bind fun t_262 => (((Res.ok (row_248)).bind fun t_258 => (Res.ok ((t_255 - (1 : Int)))).bind fun t_259 => atR t_258 t_259)).bind fun t_263 => s__law_more t_260 t_261 t_262 t_263)).bind fun t_264 => Res.ok ((-t_264)))) t_266)).bind fun t_267 => Res.ok ((List.sum t_267)))) (t_itL (e := (eL eI)) (t_f2 t__law_rows (t_b1 (b_len (e := (eL eI))) (t_varB (e := (eL (eL eI))) (a := types_0) rfl)) (t_list (t_lcons (t_i) (t_lnil))))) (fun row_248 => tg_set) (fun row_248 => t_tb (t_cmp ci_eq (t_e2 (op_ix (e := eI)) (t_varB (e := (eL eI)) (a := row_248) rfl) (t_e1 op_neg (t_i))) (t_varB (e := eI) (a := x_244) rfl))) (fun row_248 => t_b1 b_sum (t_list (t_comp (e := eI) (e' := eI) _ (fun (t_255 : Int) => Res.ok (true)) (fun (t_255 : Int) => ((((Res.ok (types_0)).bind fun t_260 => (Res.ok (chosen_0)).bind fun t_261 => (((Res.ok (row_248)).bind fun t_256 => (Res.ok (t_255)).bind fun t_257 => atR t_256 t_257)).bind fun t_262 => (((Res.ok (row_248)).bind fun t_258 => (Res.ok ((t_255 - (1 : Int)))).bind fun t_259 => atR t_258 t_259)).bind fun t_263 => s__law_more t_260 t_261 t_262 t_263)).bind fun t_264 => Res.ok ((-t_264)))) (t_b2 b_rg2 (t_i) (t_b1 (b_len (e := eI)) (t_varB (e := (eL eI)) (a := row_248) rfl))) (fun t_255 => tg_set) (fun t_255 => t_true) (fun t_255 => t_e1 op_neg (t_f4 t__law_more (t_var (e := (eL (eL eI))) (a := types_0) rfl) (t_var (e := (eL eI)) (a := chosen_0) rfl) (t_e2 (op_ix (e := eI)) (t_varB (e := (eL eI)) (a := row_248) rfl) (t_varB (e := eI) (a := t_255) rfl)) (t_e2 (op_ix (e := eI)) (t_varB (e := (eL eI)) (a := row_248) rfl) (t_e2 op_sub (t_varB (e := eI) (a := t_255) rfl) (t_i)))))))))) fun sums_245 =>
     s_last (s_put (e := eI) (xs := s_243) rfl rfl (t_varB (e := eI) (a := x_244) rfl) (t_b1 b_min (t_varB (e := (eL eI)) (a := sums_245) rfl)) fun found_271 =>
     s_passB (c := found_271) [true, true, true, false, false, false, false] rfl)) fun s_243 =>
     s_last (s_frz1 (e := eI) (xs := s_243) rfl (s_frz0 (s_ret (t_var (e := (eL eI)) (a := s_243) rfl)))))


def s__law_refused (which_0 : Int) (types_0 : (List (List Int))) (chosen_0 : (List Int)) (told_0 : (List Int)) : Res (Option (Str × Int)) :=
  seqF (tryR (["BadEnd", "BadPaid", "BadType"] : List Str) [(("BadType" : Str), fun (k : Int) => (some (("type" : Str), k) : (Option (Str × Int)))), (("BadEnd" : Str), fun (k : Int) => (some (("end" : Str), k) : (Option (Str × Int)))), (("BadPaid" : Str), fun (k : Int) => (some (("paid" : Str), k) : (Option (Str × Int))))] ((Res.ok ((decide (which_0 = (0 : Int))))).bind fun b => if b = true then
  ((((Res.ok (types_0)).bind fun t_275 => (Res.ok (chosen_0)).bind fun t_276 => s_round_of_gains t_275 t_276)).bind fun _ =>
  Res.ok (Fl.nx (())))
  else (Res.ok ((decide (which_0 = (1 : Int))))).bind fun b => if b = true then
  ((((Res.ok (types_0)).bind fun t_277 => (Res.ok (chosen_0)).bind fun t_278 => s_greatest_payments t_277 t_278)).bind fun _ =>
  Res.ok (Fl.nx (())))
  else (Res.ok ((decide (which_0 = (2 : Int))))).bind fun b => if b = true then
  ((((Res.ok (types_0)).bind fun t_279 => (Res.ok (chosen_0)).bind fun t_280 => (Res.ok (told_0)).bind fun t_281 => s_keep_truth t_279 t_280 t_281)).bind fun _ =>
  Res.ok (Fl.nx (())))
  else (((Res.ok (types_0)).bind fun t_282 => (Res.ok (chosen_0)).bind fun t_283 => (Res.ok (told_0)).bind fun t_284 => s_gain_of_round t_282 t_283 t_284)).bind fun _ =>
  Res.ok (Fl.nx (())))) (fun t => Res.ok t) fun (_ : Unit) =>
  Res.ok ((none : (Option (Str × Int))))
theorem t__law_refused (which_0 : Int) (types_0 : (List (List Int))) (chosen_0 : (List Int)) (told_0 : (List Int)) : RR (s__law_refused which_0 types_0 chosen_0 told_0) (eO (eP eS eI)) (m__law_refused [(eI which_0), ((eL (eL eI)) types_0), ((eL eI) chosen_0), ((eL eI) told_0)]) :=
  t_defM (n := 4) (j := 1) rfl rfl rfl
     (s_try (E := fun (_ : Unit) => [none, none, none, none, none]) (e := (eO (eP eS eI))) (hs' := [(("BadType" : Str), fun (k : Int) => (some (("type" : Str), k) : (Option (Str × Int)))), (("BadEnd" : Str), fun (k : Int) => (some (("end" : Str), k) : (Option (Str × Int)))), (("BadPaid" : Str), fun (k : Int) => (some (("paid" : Str), k) : (Option (Str × Int))))]) rfl rfl (s_last (s_if rfl (t_tb (t_cmp ci_eq (t_varB (e := eI) (a := which_0) rfl) (t_i)))
     (s_expr rfl (t_f2 t_round_of_gains (t_var (e := (eL (eL eI))) (a := types_0) rfl) (t_var (e := (eL eI)) (a := chosen_0) rfl)) fun _ =>
     s_passNF (c := ()) [false, false, false, false, false] rfl)
     (s_if rfl (t_tb (t_cmp ci_eq (t_varB (e := eI) (a := which_0) rfl) (t_i)))
     (s_expr rfl (t_f2 t_greatest_payments (t_var (e := (eL (eL eI))) (a := types_0) rfl) (t_var (e := (eL eI)) (a := chosen_0) rfl)) fun _ =>
     s_passNF (c := ()) [false, false, false, false, false] rfl)
     (s_if rfl (t_tb (t_cmp ci_eq (t_varB (e := eI) (a := which_0) rfl) (t_i)))
     (s_expr rfl (t_f3 t_keep_truth (t_var (e := (eL (eL eI))) (a := types_0) rfl) (t_var (e := (eL eI)) (a := chosen_0) rfl) (t_var (e := (eL eI)) (a := told_0) rfl)) fun _ =>
     s_passNF (c := ()) [false, false, false, false, false] rfl)
     (s_expr rfl (t_f3 t_gain_of_round (t_var (e := (eL (eL eI))) (a := types_0) rfl) (t_var (e := (eL eI)) (a := chosen_0) rfl) (t_var (e := (eL eI)) (a := told_0) rfl)) fun _ =>
     s_passNF (c := ()) [false, false, false, false, false] rfl))))) retT fun _ =>
     s_last (s_ret (t_nonO (e := (eP eS eI)))))

def s_law_1 (p_313 : (Int × Int × Int)) (types_314 : (List (List Int))) (chosen_367 : (List Int)) (told_423 : (Option (List Int))) (s_504 : Unit) (x_505 : (List Int)) : Res (Fl Unit Bool) :=
  (((Res.ok (types_314)).bind fun t_660 => (Res.ok (chosen_367)).bind fun t_661 => (Res.ok (x_505)).bind fun t_662 => s__law_keeps t_660 t_661 t_662)).bind fun (good_659 : Bool) =>
  (((((((Res.ok ((List.map (fun (row_663 : (List Int)) => row_663) types_314))).bind fun t_665 => (Res.ok (chosen_367)).bind fun t_666 => (Res.ok (x_505)).bind fun t_667 => s_keep_truth t_665 t_666 t_667)).bind fun t_668 => (Res.ok (good_659)).bind fun t_669 => Res.ok ((!decide (t_668 = t_669))))).bind fun t_670 => (if t_670 = true then Res.ok true else Res.ok ((good_659 && (told_423).isNone))))).bind fun b => if b = true then
  ((Res.ok (false)).bind fun t => Res.ok (Fl.ret t))
  else (((Res.ok (good_659)).bind fun t_690 => (if t_690 = true then ((((((Res.ok (p_313.1)).bind fun t_671 => rngR t_671)).bind fun t_687 => compR (fun (t_672 : Int) => ((((((Res.ok (x_505)).bind fun t_673 => (Res.ok (t_672)).bind fun t_674 => atR t_673 t_674)).bind fun t_677 => (((Res.ok (x_505)).bind fun t_675 => (Res.ok ((0 : Int))).bind fun t_676 => atR t_675 t_676)).bind fun t_678 => Res.ok ((t_677 - t_678)))).bind fun t_684 => (((((Res.ok (told_423)).bind fun t_681 => orOL t_681 (((Res.ok (((0 : Int) :: ([] : List Int)))).bind fun t_679 => (Res.ok (p_313.1)).bind fun t_680 => repR t_679 t_680)))).bind fun t_682 => (Res.ok (t_672)).bind fun t_683 => atR t_682 t_683)).bind fun t_685 => Res.ok ((decide (t_685 < t_684))))) (fun (t_672 : Int) => Res.ok (t_672)) t_687)).bind fun t_688 => (Res.ok (([] : List Int))).bind fun t_689 => Res.ok ((!decide (t_688 = t_689)))) else Res.ok false))).bind fun b => if b = true then
  ((Res.ok (false)).bind fun t => Res.ok (Fl.ret t))
  else Res.ok (Fl.nx (()))
def s_law_2 (draws_285 : (List Int)) (k_290 : Int) (p_313 : (Int × Int × Int)) (types_314 : (List (List Int))) (chosen_367 : (List Int)) (s_421 : Unit) (x_422 : Int) : Res (Fl Unit Bool) :=
  (((((Res.ok (p_313.1)).bind fun t_694 => (((Res.ok (p_313.1)).bind fun t_693 => rngR t_693)).bind fun t_695 => s__law_rows t_694 t_695)).bind fun t_703 => (((Res.ok (draws_285)).bind fun t_700 => (Res.ok (((k_290 + (43 : Int)) + x_422))).bind fun t_701 => (((((Res.ok (p_313.1)).bind fun t_697 => (((Res.ok (p_313.1)).bind fun t_696 => rngR t_696)).bind fun t_698 => s__law_rows t_697 t_698)).bind fun t_699 => Res.ok (((t_699.length : Nat) : Int)))).bind fun t_702 => TyC.s__law_mix t_700 t_701 t_702)).bind fun t_704 => atR t_703 t_704)).bind fun (row_692 : (List Int)) =>
  (((((Res.ok ((List.map (fun (one_705 : (List Int)) => one_705) types_314))).bind fun t_707 => (Res.ok (chosen_367)).bind fun t_708 => (Res.ok (row_692)).bind fun t_709 => s_gain_of_round t_707 t_708 t_709)).bind fun t_713 => (((Res.ok (types_314)).bind fun t_710 => (Res.ok (chosen_367)).bind fun t_711 => (Res.ok (row_692)).bind fun t_712 => s__law_gain t_710 t_711 t_712)).bind fun t_714 => Res.ok ((!decide (t_713 = t_714))))).bind fun b => if b = true then
  ((Res.ok (false)).bind fun t => Res.ok (Fl.ret t))
  else Res.ok (Fl.nx (()))
def s_law_3 (draws_285 : (List Int)) (s_288 : Unit) (x_289 : Int) : Res (Fl Unit Bool) :=
  (((Res.ok ((10 : Int))).bind fun t_293 => (((Res.ok ((70 : Int))).bind fun t_291 => (Res.ok (x_289)).bind fun t_292 => mulR t_291 t_292)).bind fun t_294 => Res.ok ((t_293 + t_294)))).bind fun (k_290 : Int) =>
  (((((Res.ok ((1 : Int))).bind fun t_298 => (((Res.ok (draws_285)).bind fun t_295 => (Res.ok (k_290)).bind fun t_296 => (Res.ok ((5 : Int))).bind fun t_297 => TyC.s__law_mix t_295 t_296 t_297)).bind fun t_299 => Res.ok ((t_298 + t_299)))).bind fun t_310 => (((Res.ok ((1 : Int))).bind fun t_303 => (((Res.ok (draws_285)).bind fun t_300 => (Res.ok ((k_290 + (1 : Int)))).bind fun t_301 => (Res.ok ((5 : Int))).bind fun t_302 => TyC.s__law_mix t_300 t_301 t_302)).bind fun t_304 => Res.ok ((t_303 + t_304)))).bind fun t_311 => (((Res.ok (((5 : Int) :: ((20 : Int) :: ((1000001 : Int) :: ([] : List Int)))))).bind fun t_308 => (((Res.ok (draws_285)).bind fun t_305 => (Res.ok ((k_290 + (2 : Int)))).bind fun t_306 => (Res.ok ((3 : Int))).bind fun t_307 => TyC.s__law_mix t_305 t_306 t_307)).bind fun t_309 => atR t_308 t_309)).bind fun t_312 => Res.ok ((t_310, t_311, t_312)))).bind fun (p_313 : (Int × Int × Int)) =>
  (((((Res.ok (p_313.1)).bind fun t_315 => rngR t_315)).bind fun t_331 => compR (fun (t_316 : Int) => Res.ok (true)) (fun (t_316 : Int) => ((((Res.ok (p_313.2.1)).bind fun t_317 => rngR t_317)).bind fun t_329 => compR (fun (end_318 : Int) => Res.ok (true)) (fun (end_318 : Int) => ((Res.ok (draws_285)).bind fun t_325 => (((((Res.ok ((k_290 + (3 : Int)))).bind fun t_321 => (((Res.ok ((5 : Int))).bind fun t_319 => (Res.ok (t_316)).bind fun t_320 => mulR t_319 t_320)).bind fun t_322 => Res.ok ((t_321 + t_322)))).bind fun t_323 => (Res.ok (end_318)).bind fun t_324 => Res.ok ((t_323 + t_324)))).bind fun t_326 => (Res.ok (p_313.2.2)).bind fun t_327 => TyC.s__law_mix t_325 t_326 t_327)) t_329)) t_331)).bind fun (types_314 : (List (List Int))) =>
  (((((Res.ok (p_313.2.1)).bind fun t_333 => rngR t_333)).bind fun t_339 => compR (fun (end_334 : Int) => Res.ok (true)) (fun (end_334 : Int) => ((Res.ok (draws_285)).bind fun t_335 => (Res.ok (((k_290 + (30 : Int)) + end_334))).bind fun t_336 => (Res.ok (p_313.2.2)).bind fun t_337 => TyC.s__law_mix t_335 t_336 t_337)) t_339)).bind fun (prices_332 : (List Int)) =>
  (((Res.ok (types_314)).bind fun t_366 => compR (fun (row_341 : (List Int)) => Res.ok (true)) (fun (row_341 : (List Int)) => ((((Res.ok (p_313.2.1)).bind fun t_342 => rngR t_342)).bind fun t_364 => compR (fun (end_343 : Int) => ((((((Res.ok (row_341)).bind fun t_344 => (Res.ok (end_343)).bind fun t_345 => atR t_344 t_345)).bind fun t_348 => (((Res.ok (prices_332)).bind fun t_346 => (Res.ok (end_343)).bind fun t_347 => atR t_346 t_347)).bind fun t_349 => Res.ok ((t_348 - t_349)))).bind fun t_361 => (((((((Res.ok (p_313.2.1)).bind fun t_350 => rngR t_350)).bind fun t_359 => compR (fun (one_351 : Int) => Res.ok (true)) (fun (one_351 : Int) => ((((Res.ok (row_341)).bind fun t_352 => (Res.ok (one_351)).bind fun t_353 => atR t_352 t_353)).bind fun t_356 => (((Res.ok (prices_332)).bind fun t_354 => (Res.ok (one_351)).bind fun t_355 => atR t_354 t_355)).bind fun t_357 => Res.ok ((t_356 - t_357)))) t_359)).bind fun t_360 => ofO (maxL t_360))).bind fun t_362 => Res.ok ((decide (t_361 = t_362))))) (fun (end_343 : Int) => Res.ok (end_343)) t_364)) t_366)).bind fun (picks_340 : (List (List Int))) =>
  (((((Res.ok (p_313.1)).bind fun t_368 => rngR t_368)).bind fun t_396 => compR (fun (t_369 : Int) => Res.ok (true)) (fun (t_369 : Int) => ((((((Res.ok (draws_285)).bind fun t_382 => (Res.ok (((k_290 + (36 : Int)) + t_369))).bind fun t_383 => (Res.ok (p_313.2.1)).bind fun t_384 => TyC.s__law_mix t_382 t_383 t_384)).bind fun t_385 => (((((((Res.ok (picks_340)).bind fun t_370 => (Res.ok (t_369)).bind fun t_371 => atR t_370 t_371)).bind fun t_378 => (((Res.ok (draws_285)).bind fun t_375 => (Res.ok (((k_290 + (36 : Int)) + t_369))).bind fun t_376 => (((((Res.ok (picks_340)).bind fun t_372 => (Res.ok (t_369)).bind fun t_373 => atR t_372 t_373)).bind fun t_374 => Res.ok (((t_374.length : Nat) : Int)))).bind fun t_377 => TyC.s__law_mix t_375 t_376 t_377)).bind fun t_379 => atR t_378 t_379)).bind fun t_380 => (Res.ok (([] : List Int))).bind fun t_381 => Res.ok ((t_380 :: t_381)))).bind fun t_386 => Res.ok ((t_385 :: t_386)))).bind fun t_393 => (((((((Res.ok (draws_285)).bind fun t_387 => (Res.ok ((k_290 + (42 : Int)))).bind fun t_388 => (Res.ok ((2 : Int))).bind fun t_389 => TyC.s__law_mix t_387 t_388 t_389)).bind fun t_390 => (Res.ok ((0 : Int))).bind fun t_391 => Res.ok ((decide (t_390 = t_391))))).bind fun t_392 => Res.ok ((if t_392 = true then (1 : Int) else 0)))).bind fun t_394 => atR t_393 t_394)) t_396)).bind fun (chosen_367 : (List Int)) =>
  (((((Res.ok (p_313.1)).bind fun t_399 => (((Res.ok (p_313.1)).bind fun t_398 => rngR t_398)).bind fun t_400 => s__law_rows t_399 t_400)).bind fun t_409 => compR (fun (row_401 : (List Int)) => ((Res.ok ((decide ((1 : Int) < ((row_401.length : Nat) : Int))))).bind fun t_407 => (if t_407 = true then ((((Res.ok (types_314)).bind fun t_402 => (Res.ok (chosen_367)).bind fun t_403 => (Res.ok (row_401)).bind fun t_404 => s__law_gain t_402 t_403 t_404)).bind fun t_405 => (Res.ok ((0 : Int))).bind fun t_406 => Res.ok ((decide (t_406 < t_405)))) else Res.ok false))) (fun (row_401 : (List Int)) => Res.ok (row_401)) t_409)).bind fun (rounds_397 : (List (List Int))) =>
  (((((Res.ok ((List.map (fun (row_410 : (List Int)) => row_410) types_314))).bind fun t_412 => (Res.ok (chosen_367)).bind fun t_413 => s_round_of_gains t_412 t_413)).bind fun t_418 => (((((Res.ok ((List.map some (rounds_397)))).bind fun t_414 => (Res.ok (((none : (Option (List Int))) :: ([] : List (Option (List Int)))))).bind fun t_415 => catR t_414 t_415)).bind fun t_416 => (Res.ok ((0 : Int))).bind fun t_417 => atR t_416 t_417)).bind fun t_419 => Res.ok ((!decide (t_418 = t_419))))).bind fun b => if b = true then
  ((Res.ok (false)).bind fun t => Res.ok (Fl.ret t))
  else (((Res.ok ((6 : Int))).bind fun t_420 => rngR t_420)).bind fun xs_715 => seqF (forR (s_law_2 draws_285 k_290 p_313 types_314 chosen_367) (()) xs_715) (fun t => Res.ok (Fl.ret t)) fun (s_421 : Unit) =>
  (((Res.ok ((List.map (fun (row_424 : (List Int)) => row_424) types_314))).bind fun t_426 => (Res.ok (chosen_367)).bind fun t_427 => s_greatest_payments t_426 t_427)).bind fun (told_423 : (Option (List Int))) =>
  (Res.ok ((!decide ((told_423).isNone = (!decide (rounds_397 = ([] : List (List Int)))))))).bind fun b => if b = true then
  ((Res.ok (false)).bind fun t => Res.ok (Fl.ret t))
  else (((((((Res.ok (p_313.1)).bind fun t_440 => rngR t_440)).bind fun t_446 => compR (fun (t_441 : Int) => Res.ok (true)) (fun (t_441 : Int) => ((Res.ok (draws_285)).bind fun t_442 => (Res.ok (((k_290 + (50 : Int)) + t_441))).bind fun t_443 => (Res.ok (p_313.2.2)).bind fun t_444 => TyC.s__law_mix t_442 t_443 t_444)) t_446)).bind fun t_447 => (((((Res.ok (chosen_367)).bind fun t_437 => compR (fun (end_433 : Int) => Res.ok (true)) (fun (end_433 : Int) => ((Res.ok (prices_332)).bind fun t_434 => (Res.ok (end_433)).bind fun t_435 => atR t_434 t_435)) t_437)).bind fun t_438 => (((((Res.ok (((0 : Int) :: ([] : List Int)))).bind fun t_429 => (Res.ok (p_313.1)).bind fun t_430 => repR t_429 t_430)).bind fun t_431 => (Res.ok (([] : List (List Int)))).bind fun t_432 => Res.ok ((t_431 :: t_432)))).bind fun t_439 => Res.ok ((t_438 :: t_439)))).bind fun t_448 => Res.ok ((t_447 :: t_448)))).bind fun (paids_428 : (List (List Int))) =>
  seqF ((Res.ok ((told_423).isSome)).bind fun b => if b = true then
  ((((((Res.ok (told_423)).bind fun t_458 => (((((Res.ok (types_314)).bind fun t_455 => (Res.ok (chosen_367)).bind fun t_456 => s__law_greatest t_455 t_456)).bind fun t_457 => Res.ok ((some (t_457))))).bind fun t_459 => Res.ok ((!decide (t_458 = t_459))))).bind fun t_460 => (if t_460 = true then Res.ok true else ((((Res.ok (types_314)).bind fun t_451 => (Res.ok (chosen_367)).bind fun t_452 => (((Res.ok (told_423)).bind fun t_450 => unO (t_450))).bind fun t_453 => s__law_keeps t_451 t_452 t_453)).bind fun t_454 => Res.ok ((!t_454)))))).bind fun b => if b = true then
  ((Res.ok (false)).bind fun t => Res.ok (Fl.ret t))
  else (((Res.ok (draws_285)).bind fun t_462 => (Res.ok ((k_290 + (56 : Int)))).bind fun t_463 => (Res.ok (p_313.1)).bind fun t_464 => TyC.s__law_mix t_462 t_463 t_464)).bind fun (at_461 : Int) =>
  (((Res.ok (paids_428)).bind fun t_496 => (((((Res.ok (told_423)).bind fun t_493 => unO (t_493))).bind fun t_494 => (((((((((((Res.ok (told_423)).bind fun t_472 => unO (t_472))).bind fun t_473 => (Res.ok (none)).bind fun t_474 => (Res.ok ((some (at_461)))).bind fun t_475 => Res.ok ((cutL t_473 t_474 t_475)))).bind fun t_483 => (((((((((Res.ok (told_423)).bind fun t_476 => unO (t_476))).bind fun t_477 => (Res.ok (at_461)).bind fun t_478 => atR t_477 t_478)).bind fun t_479 => (Res.ok ((1 : Int))).bind fun t_480 => Res.ok ((t_479 + t_480)))).bind fun t_481 => (Res.ok (([] : List Int))).bind fun t_482 => Res.ok ((t_481 :: t_482)))).bind fun t_484 => catR t_483 t_484)).bind fun t_489 => (((((Res.ok (told_423)).bind fun t_485 => unO (t_485))).bind fun t_486 => (Res.ok ((some ((at_461 + (1 : Int)))))).bind fun t_487 => (Res.ok (none)).bind fun t_488 => Res.ok ((cutL t_486 t_487 t_488)))).bind fun t_490 => catR t_489 t_490)).bind fun t_491 => (((((((Res.ok (told_423)).bind fun t_466 => unO (t_466))).bind fun t_469 => Res.ok ((List.map (fun (one_467 : Int) => (one_467 + (7 : Int))) t_469)))).bind fun t_470 => (Res.ok (([] : List (List Int)))).bind fun t_471 => Res.ok ((t_470 :: t_471)))).bind fun t_492 => Res.ok ((t_491 :: t_492)))).bind fun t_495 => Res.ok ((t_494 :: t_495)))).bind fun t_497 => catR t_496 t_497)).bind fun (paids_465 : (List (List Int))) =>
  (((Res.ok ((decide ((0 : Int) < at_461)))).bind fun t_503 => (if t_503 = true then ((Res.ok (types_314)).bind fun t_500 => (Res.ok (chosen_367)).bind fun t_501 => (((Res.ok (paids_465)).bind fun t_498 => (Res.ok ((4 : Int))).bind fun t_499 => atR t_498 t_499)).bind fun t_502 => s__law_keeps t_500 t_501 t_502) else Res.ok false))).bind fun b => if b = true then
  ((Res.ok (false)).bind fun t => Res.ok (Fl.ret t))
  else Res.ok (Fl.nx (paids_465)))
  else Res.ok (Fl.nx (paids_428))) (fun t => Res.ok (Fl.ret t)) fun (s_449 : (List (List Int))) =>
  (Res.ok (s_449)).bind fun xs_691 => seqF (forR (s_law_1 p_313 types_314 chosen_367 told_423) (()) xs_691) (fun t => Res.ok (Fl.ret t)) fun (s_504 : Unit) =>
  (((((((((Res.ok (p_313.1)).bind fun t_513 => rngR t_513)).bind fun t_522 => compR (fun (t_514 : Int) => ((((Res.ok (chosen_367)).bind fun t_515 => (Res.ok (t_514)).bind fun t_516 => atR t_515 t_516)).bind fun t_519 => (((Res.ok (picks_340)).bind fun t_517 => (Res.ok (t_514)).bind fun t_518 => atR t_517 t_518)).bind fun t_520 => Res.ok ((!decide (t_519 ∈ t_520))))) (fun (t_514 : Int) => Res.ok (t_514)) t_522)).bind fun t_523 => (Res.ok (([] : List Int))).bind fun t_524 => Res.ok ((decide (t_523 = t_524))))).bind fun t_525 => (if t_525 = true then ((Res.ok ((told_423).isNone)).bind fun t_512 => (if t_512 = true then Res.ok true else ((((Res.ok (types_314)).bind fun t_508 => (Res.ok (chosen_367)).bind fun t_509 => (((Res.ok (s_449)).bind fun t_506 => (Res.ok ((1 : Int))).bind fun t_507 => atR t_506 t_507)).bind fun t_510 => s__law_keeps t_508 t_509 t_510)).bind fun t_511 => Res.ok ((!t_511))))) else Res.ok false))).bind fun b => if b = true then
  ((Res.ok (false)).bind fun t => Res.ok (Fl.ret t))
  else (((Res.ok (draws_285)).bind fun t_527 => (Res.ok ((k_290 + (57 : Int)))).bind fun t_528 => (Res.ok (p_313.1)).bind fun t_529 => TyC.s__law_mix t_527 t_528 t_529)).bind fun (at_526 : Int) =>
  (((((((Res.ok (((-(1 : Int)) :: ([] : List Int)))).bind fun t_539 => (Res.ok (p_313.2.1)).bind fun t_540 => repR t_539 t_540)).bind fun t_541 => (((((Res.ok (((1000001 : Int) :: ([] : List Int)))).bind fun t_535 => (Res.ok (p_313.2.1)).bind fun t_536 => repR t_535 t_536)).bind fun t_537 => (((((Res.ok (((1 : Int) :: ([] : List Int)))).bind fun t_531 => (Res.ok ((p_313.2.1 + (1 : Int)))).bind fun t_532 => repR t_531 t_532)).bind fun t_533 => (Res.ok (([] : List (List Int)))).bind fun t_534 => Res.ok ((t_533 :: t_534)))).bind fun t_538 => Res.ok ((t_537 :: t_538)))).bind fun t_542 => Res.ok ((t_541 :: t_542)))).bind fun t_549 => compR (fun (bad_543 : (List Int)) => Res.ok (true)) (fun (bad_543 : (List Int)) => ((((Res.ok ((cutL types_314 none (some (at_526))))).bind fun t_544 => (Res.ok ((bad_543 :: ([] : List (List Int))))).bind fun t_545 => catR t_544 t_545)).bind fun t_546 => (Res.ok ((cutL types_314 (some ((at_526 + (1 : Int)))) none))).bind fun t_547 => catR t_546 t_547)) t_549)).bind fun (bents_530 : (List (List (List Int)))) =>
  (((Res.ok ((("type" : Str), at_526))).bind fun t_559 => (((Res.ok ((("type" : Str), at_526))).bind fun t_557 => (((((Res.ok (("type" : Str))).bind fun t_553 => (((Res.ok ((at_526 :: ((1 : Int) :: ([] : List Int))))).bind fun t_551 => (Res.ok ((if (decide (at_526 = (0 : Int))) = true then (1 : Int) else 0))).bind fun t_552 => atR t_551 t_552)).bind fun t_554 => Res.ok ((t_553, t_554)))).bind fun t_555 => (Res.ok (([] : List (Str × Int)))).bind fun t_556 => Res.ok ((t_555 :: t_556)))).bind fun t_558 => Res.ok ((t_557 :: t_558)))).bind fun t_560 => Res.ok ((t_559 :: t_560)))).bind fun (due_550 : (List (Str × Int))) =>
  (((Res.ok ((decide ((1 : Int) < p_313.1)))).bind fun t_579 => (if t_579 = true then ((((Res.ok (bents_530)).bind fun t_571 => compR (fun (bent_561 : (List (List Int))) => Res.ok (true)) (fun (bent_561 : (List (List Int))) => ((((Res.ok ((4 : Int))).bind fun t_562 => rngR t_562)).bind fun t_569 => compR (fun (which_563 : Int) => Res.ok (true)) (fun (which_563 : Int) => ((Res.ok (which_563)).bind fun t_564 => (Res.ok (bent_561)).bind fun t_565 => (Res.ok (((99 : Int) :: ([] : List Int)))).bind fun t_566 => (Res.ok (([] : List Int))).bind fun t_567 => s__law_refused t_564 t_565 t_566 t_567)) t_569)) t_571)).bind fun t_577 => (((Res.ok (due_550)).bind fun t_576 => compR (fun (one_572 : (Str × Int)) => Res.ok (true)) (fun (one_572 : (Str × Int)) => ((Res.ok ((one_572 :: ([] : List (Str × Int))))).bind fun t_573 => (Res.ok ((4 : Int))).bind fun t_574 => repR t_573 t_574)) t_576)).bind fun t_578 => neR ((eL (eL (eO (eP eS eI)))) t_577) ((eL (eL (eP eS eI))) t_578)) else Res.ok false))).bind fun b => if b = true then
  ((Res.ok (false)).bind fun t => Res.ok (Fl.ret t))
  else (((((((((Res.ok ((4 : Int))).bind fun t_594 => rngR t_594)).bind fun t_601 => compR (fun (which_595 : Int) => Res.ok (true)) (fun (which_595 : Int) => ((Res.ok (which_595)).bind fun t_596 => (Res.ok (([] : List (List Int)))).bind fun t_597 => (Res.ok (([] : List Int))).bind fun t_598 => (Res.ok (([] : List Int))).bind fun t_599 => s__law_refused t_596 t_597 t_598 t_599)) t_601)).bind fun t_604 => (((Res.ok (((("type" : Str), (-(1 : Int))) :: ([] : List (Str × Int))))).bind fun t_602 => (Res.ok ((4 : Int))).bind fun t_603 => repR t_602 t_603)).bind fun t_605 => neR ((eL (eO (eP eS eI))) t_604) ((eL (eP eS eI)) t_605))).bind fun t_606 => (if t_606 = true then Res.ok true else ((((((Res.ok ((4 : Int))).bind fun t_580 => rngR t_580)).bind fun t_589 => compR (fun (which_581 : Int) => Res.ok (true)) (fun (which_581 : Int) => ((Res.ok (which_581)).bind fun t_584 => (((Res.ok ((((1 : Int) :: ([] : List Int)) :: ([] : List (List Int))))).bind fun t_582 => (Res.ok ((7 : Int))).bind fun t_583 => repR t_582 t_583)).bind fun t_585 => (Res.ok (([] : List Int))).bind fun t_586 => (Res.ok (([] : List Int))).bind fun t_587 => s__law_refused t_584 t_585 t_586 t_587)) t_589)).bind fun t_592 => (((Res.ok (((("type" : Str), (-(1 : Int))) :: ([] : List (Str × Int))))).bind fun t_590 => (Res.ok ((4 : Int))).bind fun t_591 => repR t_590 t_591)).bind fun t_593 => neR ((eL (eO (eP eS eI))) t_592) ((eL (eP eS eI)) t_593))))).bind fun b => if b = true then
  ((Res.ok (false)).bind fun t => Res.ok (Fl.ret t))
  else (((((Res.ok ((cutL chosen_367 none (some (at_526))))).bind fun t_615 => (((((Res.ok ((p_313.2.1 :: ((-(1 : Int)) :: ([] : List Int))))).bind fun t_611 => (((Res.ok (draws_285)).bind fun t_608 => (Res.ok ((k_290 + (58 : Int)))).bind fun t_609 => (Res.ok ((2 : Int))).bind fun t_610 => TyC.s__law_mix t_608 t_609 t_610)).bind fun t_612 => atR t_611 t_612)).bind fun t_613 => (Res.ok (([] : List Int))).bind fun t_614 => Res.ok ((t_613 :: t_614)))).bind fun t_616 => catR t_615 t_616)).bind fun t_617 => (Res.ok ((cutL chosen_367 (some ((at_526 + (1 : Int)))) none))).bind fun t_618 => catR t_617 t_618)).bind fun (odd_607 : (List Int)) =>
  (((((((((Res.ok ((4 : Int))).bind fun t_631 => rngR t_631)).bind fun t_638 => compR (fun (which_632 : Int) => Res.ok (true)) (fun (which_632 : Int) => ((Res.ok (which_632)).bind fun t_633 => (Res.ok (types_314)).bind fun t_634 => (Res.ok (odd_607)).bind fun t_635 => (Res.ok (([] : List Int))).bind fun t_636 => s__law_refused t_633 t_634 t_635 t_636)) t_638)).bind fun t_641 => (((Res.ok (((("end" : Str), at_526) :: ([] : List (Str × Int))))).bind fun t_639 => (Res.ok ((4 : Int))).bind fun t_640 => repR t_639 t_640)).bind fun t_642 => neR ((eL (eO (eP eS eI))) t_641) ((eL (eP eS eI)) t_642))).bind fun t_643 => (if t_643 = true then Res.ok true else ((((((Res.ok ((4 : Int))).bind fun t_619 => rngR t_619)).bind fun t_626 => compR (fun (which_620 : Int) => Res.ok (true)) (fun (which_620 : Int) => ((Res.ok (which_620)).bind fun t_621 => (Res.ok (types_314)).bind fun t_622 => (Res.ok ((cutL chosen_367 (some ((1 : Int))) none))).bind fun t_623 => (Res.ok (([] : List Int))).bind fun t_624 => s__law_refused t_621 t_622 t_623 t_624)) t_626)).bind fun t_629 => (((Res.ok (((("end" : Str), p_313.1) :: ([] : List (Str × Int))))).bind fun t_627 => (Res.ok ((4 : Int))).bind fun t_628 => repR t_627 t_628)).bind fun t_630 => neR ((eL (eO (eP eS eI))) t_629) ((eL (eP eS eI)) t_630))))).bind fun b => if b = true then
  ((Res.ok (false)).bind fun t => Res.ok (Fl.ret t))
  else (((((((Res.ok ((2 : Int))).bind fun t_652 => (Res.ok (types_314)).bind fun t_653 => (Res.ok (chosen_367)).bind fun t_654 => (((Res.ok (((0 : Int) :: ([] : List Int)))).bind fun t_650 => (Res.ok ((p_313.1 + (1 : Int)))).bind fun t_651 => repR t_650 t_651)).bind fun t_655 => s__law_refused t_652 t_653 t_654 t_655)).bind fun t_656 => (Res.ok ((("paid" : Str), (0 : Int)))).bind fun t_657 => neR ((eO (eP eS eI)) t_656) ((eP eS eI) t_657))).bind fun t_658 => (if t_658 = true then Res.ok true else ((((Res.ok ((2 : Int))).bind fun t_644 => (Res.ok (types_314)).bind fun t_645 => (Res.ok (chosen_367)).bind fun t_646 => (Res.ok (([] : List Int))).bind fun t_647 => s__law_refused t_644 t_645 t_646 t_647)).bind fun t_648 => (Res.ok ((("paid" : Str), (0 : Int)))).bind fun t_649 => neR ((eO (eP eS eI)) t_648) ((eP eS eI) t_649))))).bind fun b => if b = true then
  ((Res.ok (false)).bind fun t => Res.ok (Fl.ret t))
  else Res.ok (Fl.nx (()))
def s_law (script_0 : (List Int)) : Res Bool :=
  (((Res.ok (script_0)).bind fun t_286 => TyC.s__law_draws t_286)).bind fun (draws_285 : (List Int)) =>
  (((Res.ok ((4 : Int))).bind fun t_287 => rngR t_287)).bind fun xs_716 => seqF (forR (s_law_3 draws_285) (()) xs_716) (fun t => Res.ok t) fun (s_288 : Unit) =>
  Res.ok (true)
theorem t_law (script_0 : (List Int)) : RR (s_law script_0) eBo (m_law [(eScr script_0)]) :=
  t_defM (n := 1) (j := 26) rfl rfl rfl
     (s_set (e := (eL eI)) rfl (t_f1 t__law_draws (t_var (e := eScr) (a := script_0) rfl)) fun draws_285 =>
     s_forF (E := fun (s_288 : Unit) => ([none, some (.val ((eL eI) draws_285)), none, none, none, none, none, none, none, none, none, none, none, none, none, none, none, none, none, none, none, none, none, none, none, none, none] : Pn)) (e := eI) (eR := eBo) rfl [false, true, false, false, false, false, false, false, false, false, false, false, false, false, false, false, false, false, false, false, false, false, false, false, false, false, false] (t_b1 b_rg1 (t_i)) rfl (fun s_288 x_289 => tg_set) (fun s_288 x_289 =>
     s_set (e := eI) rfl (t_e2 op_add (t_i) (t_e2 op_mul (t_i) (t_varB (e := eI) (a := x_289) rfl))) fun k_290 =>
     s_asg (e := (eP3 eI eI eI)) rfl (t_tup3 (t_e2 op_add (t_i) (t_f3 t__law_mix (t_var (e := (eL eI)) (a := draws_285) rfl) (t_var (e := eI) (a := k_290) rfl) (t_i))) (t_e2 op_add (t_i) (t_f3 t__law_mix (t_var (e := (eL eI)) (a := draws_285) rfl) (t_e2 op_add (t_varB (e := eI) (a := k_290) rfl) (t_i)) (t_i))) (t_e2 (op_ix (e := eI)) (t_list (t_lcons (t_i) (t_lcons (t_i) (t_lcons (t_i) (t_lnil))))) (t_f3 t__law_mix (t_var (e := (eL eI)) (a := draws_285) rfl) (t_e2 op_add (t_varB (e := eI) (a := k_290) rfl) (t_i)) (t_i)))) (fun p_313 => tg_unp rfl (tg_cons (tg_set) (tg_cons (tg_set) (tg_cons (tg_set) (tg_nil))))) fun p_313 =>
     s_set (e := (eL (eL eI))) rfl (t_list (t_comp (e := eI) (e' := (eL eI)) _ (fun (t_316 : Int) => Res.ok (true)) (fun (t_316 : Int) => ((((Res.ok (p_313.2.1)).bind fun t_317 => rngR t_317)).bind fun t_329 => compR (fun (end_318 : Int) => Res.ok (true)) (fun (end_318 : Int) => ((Res.ok (draws_285)).bind fun t_325 => (((((Res.ok ((k_290 + (3 : Int)))).bind fun t_321 => (((Res.ok ((5 : Int))).bind fun t_319 => (Res.ok (t_316)).bind fun t_320 => mulR t_319 t_320)).bind fun t_322 => Res.ok ((t_321 + t_322)))).bind fun t_323 => (Res.ok (end_318)).bind fun t_324 => Res.ok ((t_323 + t_324)))).bind fun t_326 => (Res.ok (p_313.2.2)).bind fun t_327 => TyC.s__law_mix t_325 t_326 t_327)) t_329)) (t_b1 b_rg1 (t_varB (e := eI) (a := p_313.1) rfl)) (fun t_316 => tg_set) (fun t_316 => t_true) (fun t_316 => t_list (t_comp (e := eI) (e' := eI) _ (fun (end_318 : Int) => Res.ok (true)) (fun (end_318 : Int) => ((Res.ok (draws_285)).bind fun t_325 => (((((Res.ok ((k_290 + (3 : Int)))).bind fun t_321 => (((Res.ok ((5 : Int))).bind fun t_319 => (Res.ok (t_316)).bind fun t_320 => mulR t_319 t_320)).bind fun t_322 => Res.ok ((t_321 + t_322)))).bind fun t_323 => (Res.ok (end_318)).bind fun t_324 => Res.ok ((t_323 + t_324)))).bind fun t_326 => (Res.ok (p_313.2.2)).bind fun t_327 => TyC.s__law_mix t_325 t_326 t_327)) (t_b1 b_rg1 (t_varB (e := eI) (a := p_313.2.1) rfl)) (fun end_318 => tg_set) (fun end_318 => t_true) (fun end_318 => t_f3 t__law_mix (t_var (e := (eL eI)) (a := draws_285) rfl) (t_e2 op_add (t_e2 op_add (t_e2 op_add (t_varB (e := eI) (a := k_290) rfl) (t_i)) (t_e2 op_mul (t_i) (t_varB (e := eI) (a := t_316) rfl))) (t_varB (e := eI) (a := end_318) rfl)) (t_var (e := eI) (a := p_313.2.2) rfl)))))) fun types_314 =>
     s_set (e := (eL eI)) rfl (t_list (t_comp (e := eI) (e' := eI) _ (fun (end_334 : Int) => Res.ok (true)) (fun (end_334 : Int) => ((Res.ok (draws_285)).bind fun t_335 => (Res.ok (((k_290 + (30 : Int)) + end_334))).bind fun t_336 => (Res.ok (p_313.2.2)).bind fun t_337 => TyC.s__law_mix t_335 t_336 t_337)) (t_b1 b_rg1 (t_varB (e := eI) (a := p_313.2.1) rfl)) (fun end_334 => tg_set) (fun end_334 => t_true) (fun end_334 => t_f3 t__law_mix (t_var (e := (eL eI)) (a := draws_285) rfl) (t_e2 op_add (t_e2 op_add (t_varB (e := eI) (a := k_290) rfl) (t_i)) (t_varB (e := eI) (a := end_334) rfl)) (t_var (e := eI) (a := p_313.2.2) rfl)))) fun prices_332 =>
     s_set (e := (eL (eL eI))) rfl (t_list (t_comp (e := (eL eI)) (e' := (eL eI)) _ (fun (row_341 : (List Int)) => Res.ok (true)) (fun (row_341 : (List Int)) => ((((Res.ok (p_313.2.1)).bind fun t_342 => rngR t_342)).bind fun t_364 => compR (fun (end_343 : Int) => ((((((Res.ok (row_341)).bind fun t_344 => (Res.ok (end_343)).bind fun t_345 => atR t_344 t_345)).bind fun t_348 => (((Res.ok (prices_332)).bind fun t_346 => (Res.ok (end_343)).bind fun t_347 => atR t_346 t_347)).bind fun t_349 => Res.ok ((t_348 - t_349)))).bind fun t_361 => (((((((Res.ok (p_313.2.1)).bind fun t_350 => rngR t_350)).bind fun t_359 => compR (fun (one_351 : Int) => Res.ok (true)) (fun (one_351 : Int) => ((((Res.ok (row_341)).bind fun t_352 => (Res.ok (one_351)).bind fun t_353 => atR t_352 t_353)).bind fun t_356 => (((Res.ok (prices_332)).bind fun t_354 => (Res.ok (one_351)).bind fun t_355 => atR t_354 t_355)).bind fun t_357 => Res.ok ((t_356 - t_357)))) t_359)).bind fun t_360 => ofO (maxL t_360))).bind fun t_362 => Res.ok ((decide (t_361 = t_362))))) (fun (end_343 : Int) => Res.ok (end_343)) t_364)) (t_itL (e := (eL eI)) (t_varB (e := (eL (eL eI))) (a := types_314) rfl)) (fun row_341 => tg_set) (fun row_341 => t_true) (fun row_341 => t_list (t_comp (e := eI) (e' := eI) _ (fun (end_343 : Int) => ((((((Res.ok (row_341)).bind fun t_344 => (Res.ok (end_343)).bind fun t_345 => atR t_344 t_345)).bind fun t_348 => (((Res.ok (prices_332)).bind fun t_346 => (Res.ok (end_343)).bind fun t_347 => atR t_346 t_347)).bind fun t_349 => Res.ok ((t_348 - t_349)))).bind fun t_361 => (((((((Res.ok (p_313.2.1)).bind fun t_350 => rngR t_350)).bind fun t_359 => compR (fun (one_351 : Int) => Res.ok (true)) (fun (one_351 : Int) => ((((Res.ok (row_341)).bind fun t_352 => (Res.ok (one_351)).bind fun t_353 => atR t_352 t_353)).bind fun t_356 => (((Res.ok (prices_332)).bind fun t_354 => (Res.ok (one_351)).bind fun t_355 => atR t_354 t_355)).bind fun t_357 => Res.ok ((t_356 - t_357)))) t_359)).bind fun t_360 => ofO (maxL t_360))).bind fun t_362 => Res.ok ((decide (t_361 = t_362))))) (fun (end_343 : Int) => Res.ok (end_343)) (t_b1 b_rg1 (t_varB (e := eI) (a := p_313.2.1) rfl)) (fun end_343 => tg_set) (fun end_343 => t_tb (t_cmp ci_eq (t_e2 op_sub (t_e2 (op_ix (e := eI)) (t_varB (e := (eL eI)) (a := row_341) rfl) (t_varB (e := eI) (a := end_343) rfl)) (t_e2 (op_ix (e := eI)) (t_varB (e := (eL eI)) (a := prices_332) rfl) (t_varB (e := eI) (a := end_343) rfl))) (t_b1 b_max (t_list (t_comp (e := eI) (e' := eI) _ (fun (one_351 : Int) => Res.ok (true)) (fun (one_351 : Int) => ((((Res.ok (row_341)).bind fun t_352 => (Res.ok (one_351)).bind fun t_353 => atR t_352 t_353)).bind fun t_356 => (((Res.ok (prices_332)).bind fun t_354 => (Res.ok (one_351)).bind fun t_355 => atR t_354 t_355)).bind fun t_357 => Res.ok ((t_356 - t_357)))) (t_b1 b_rg1 (t_varB (e := eI) (a := p_313.2.1) rfl)) (fun one_351 => tg_set) (fun one_351 => t_true) (fun one_351 => t_e2 op_sub (t_e2 (op_ix (e := eI)) (t_varB (e := (eL eI)) (a := row_341) rfl) (t_varB (e := eI) (a := one_351) rfl)) (t_e2 (op_ix (e := eI)) (t_varB (e := (eL eI)) (a := prices_332) rfl) (t_varB (e := eI) (a := one_351) rfl)))))))) (fun end_343 => t_var (e := eI) (a := end_343) rfl))))) fun picks_340 =>
     s_set (e := (eL eI)) rfl (t_list (t_comp (e := eI) (e' := eI) _ (fun (t_369 : Int) => Res.ok (true)) (fun (t_369 : Int) => ((((((Res.ok (draws_285)).bind fun t_382 => (Res.ok (((k_290 + (36 : Int)) + t_369))).bind fun t_383 => (Res.ok (p_313.2.1)).bind fun t_384 => TyC.s__law_mix t_382 t_383 t_384)).bind fun t_385 => (((((((Res.ok (picks_340)).bind fun t_370 => (Res.ok (t_369)).bind fun t_371 => atR t_370 t_371)).bind fun t_378 => (((Res.ok (draws_285)).bind fun t_375 => (Res.ok (((k_290 + (36 : Int)) + t_369))).bind fun t_376 => (((((Res.ok (picks_340)).bind fun t_372 => (Res.ok (t_369)).bind fun t_373 => atR t_372 t_373)).bind fun t_374 => Res.ok (((t_374.length : Nat) : Int)))).bind fun t_377 => TyC.s__law_mix t_375 t_376 t_377)).bind fun t_379 => atR t_378 t_379)).bind fun t_380 => (Res.ok (([] : List Int))).bind fun t_381 => Res.ok ((t_380 :: t_381)))).bind fun t_386 => Res.ok ((t_385 :: t_386)))).bind fun t_393 => (((((((Res.ok (draws_285)).bind fun t_387 => (Res.ok ((k_290 + (42 : Int)))).bind fun t_388 => (Res.ok ((2 : Int))).bind fun t_389 => TyC.s__law_mix t_387 t_388 t_389)).bind fun t_390 => (Res.ok ((0 : Int))).bind fun t_391 => Res.ok ((decide (t_390 = t_391))))).bind fun t_392 => Res.ok ((if t_392 = true then (1 : Int) else 0)))).bind fun t_394 => atR t_393 t_394)) (t_b1 b_rg1 (t_varB (e := eI) (a := p_313.1) rfl)) (fun t_369 => tg_set) (fun t_369 => t_true) (fun t_369 => t_e2 (op_ix (e := eI)) (t_list (t_lcons (t_f3 t__law_mix (t_var (e := (eL eI)) (a := draws_285) rfl) (t_e2 op_add (t_e2 op_add (t_varB (e := eI) (a := k_290) rfl) (t_i)) (t_varB (e := eI) (a := t_369) rfl)) (t_var (e := eI) (a := p_313.2.1) rfl)) (t_lcons (t_e2 (op_ix (e := eI)) (t_e2 (op_ix (e := (eL eI))) (t_varB (e := (eL (eL eI))) (a := picks_340) rfl) (t_varB (e := eI) (a := t_369) rfl)) (t_f3 t__law_mix (t_var (e := (eL eI)) (a := draws_285) rfl) (t_e2 op_add (t_e2 op_add (t_varB (e := eI) (a := k_290) rfl) (t_i)) (t_varB (e := eI) (a := t_369) rfl)) (t_b1 (b_len (e := eI)) (t_e2 (op_ix (e := (eL eI))) (t_varB (e := (eL (eL eI))) (a := picks_340) rfl) (t_varB (e := eI) (a := t_369) rfl))))) (t_lnil)))) (t_b1 b_intB (t_cmp ci_eq (t_f3 t__law_mix (t_var (e := (eL eI)) (a := draws_285) rfl) (t_e2 op_add (t_varB (e := eI) (a := k_290) rfl) (t_i)) (t_i)) (t_i)))))) fun chosen_367 =>
     s_set (e := (eL (eL eI))) rfl (t_list (t_comp (e := (eL eI)) (e' := (eL eI)) _ (fun (row_401 : (List Int)) => ((Res.ok ((decide ((1 : Int) < ((row_401.length : Nat) : Int))))).bind fun t_407 => (if t_407 = true then ((((Res.ok (types_314)).bind fun t_402 => (Res.ok (chosen_367)).bind fun t_403 => (Res.ok (row_401)).bind fun t_404 => s__law_gain t_402 t_403 t_404)).bind fun t_405 => (Res.ok ((0 : Int))).bind fun t_406 => Res.ok ((decide (t_406 < t_405)))) else Res.ok false))) (fun (row_401 : (List Int)) => Res.ok (row_401)) (t_itL (e := (eL eI)) (t_f2 t__law_rows (t_var (e := eI) (a := p_313.1) rfl) (t_list (t_e1 op_lrg (t_varB (e := eI) (a := p_313.1) rfl))))) (fun row_401 => tg_set) (fun row_401 => t_and (t_tb (t_cmp ci_gt (t_b1 (b_len (e := eI)) (t_varB (e := (eL eI)) (a := row_401) rfl)) (t_i))) (t_tb (t_cmp ci_gt (t_f3 t__law_gain (t_var (e := (eL (eL eI))) (a := types_314) rfl) (t_var (e := (eL eI)) (a := chosen_367) rfl) (t_var (e := (eL eI)) (a := row_401) rfl)) (t_i)))) (fun row_401 => t_var (e := (eL eI)) (a := row_401) rfl))) fun rounds_397 =>
     s_if rfl (t_tb (t_e2 (op_ne (eO (eL eI))) (t_f2 t_round_of_gains (t_list (t_compM (e := (eL eI)) (e' := (eL eI)) _ (fun (row_410 : (List Int)) => row_410) (t_itL (e := (eL eI)) (t_varB (e := (eL (eL eI))) (a := types_314) rfl)) (fun row_410 => tg_set) (fun row_410 => t_list (t_listL (e := eI) (t_varB (e := (eL eI)) (a := row_410) rfl))))) (t_list (t_listL (e := eI) (t_varB (e := (eL eI)) (a := chosen_367) rfl)))) (t_e2 (op_ix (e := (eO (eL eI)))) (t_e2 (op_cat (e := (eO (eL eI)))) (t_someL (e := (eL eI)) (t_varB (e := (eL (eL eI))) (a := rounds_397) rfl)) (t_list (t_lcons (t_nonO (e := (eL eI))) (t_lnil)))) (t_i))))
     (s_retF (t_bl))
     (s_skip (s_forF (E := fun (s_421 : Unit) => ([none, some (.val ((eL eI) draws_285)), none, some (.val (eI k_290)), some (.val (eI p_313.1)), some (.val (eI p_313.2.1)), some (.val (eI p_313.2.2)), some (.val ((eL (eL eI)) types_314)), some (.val ((eL eI) prices_332)), some (.val ((eL (eL eI)) picks_340)), some (.val ((eL eI) chosen_367)), some (.val ((eL (eL eI)) rounds_397)), none, none, none, none, none, none, none, none, none, none, none, none, none, none, none] : Pn)) (e := eI) (eR := eBo) rfl [false, true, false, true, true, true, true, true, true, true, true, true, false, false, false, false, false, false, false, false, false, false, false, false, false, false, false] (t_b1 b_rg1 (t_i)) rfl (fun s_421 x_422 => tg_set) (fun s_421 x_422 =>
     s_set (e := (eL eI)) rfl (t_e2 (op_ix (e := (eL eI))) (t_f2 t__law_rows (t_var (e := eI) (a := p_313.1) rfl) (t_list (t_e1 op_lrg (t_varB (e := eI) (a := p_313.1) rfl)))) (t_f3 t__law_mix (t_var (e := (eL eI)) (a := draws_285) rfl) (t_e2 op_add (t_e2 op_add (t_varB (e := eI) (a := k_290) rfl) (t_i)) (t_varB (e := eI) (a := x_422) rfl)) (t_b1 (b_len (e := (eL eI))) (t_f2 t__law_rows (t_var (e := eI) (a := p_313.1) rfl) (t_list (t_e1 op_lrg (t_varB (e := eI) (a := p_313.1) rfl))))))) fun row_692 =>
     s_last (s_if rfl (t_tb (t_cmp ci_ne (t_f3 t_gain_of_round (t_list (t_compM (e := (eL eI)) (e' := (eL eI)) _ (fun (one_705 : (List Int)) => one_705) (t_itL (e := (eL eI)) (t_varB (e := (eL (eL eI))) (a := types_314) rfl)) (fun one_705 => tg_set) (fun one_705 => t_list (t_listL (e := eI) (t_varB (e := (eL eI)) (a := one_705) rfl))))) (t_list (t_listL (e := eI) (t_varB (e := (eL eI)) (a := chosen_367) rfl))) (t_list (t_listL (e := eI) (t_varB (e := (eL eI)) (a := row_692) rfl)))) (t_f3 t__law_gain (t_var (e := (eL (eL eI))) (a := types_314) rfl) (t_var (e := (eL eI)) (a := chosen_367) rfl) (t_var (e := (eL eI)) (a := row_692) rfl))))
     (s_retF (t_bl))
     (s_skip (s_passF (c := ()) [false, true, false, true, true, true, true, true, true, true, true, true, false, false, false, false, false, false, false, false, false, false, false, false, false, false, false] rfl)))) retF fun s_421 =>
     s_set (e := (eO (eL eI))) rfl (t_f2 t_greatest_payments (t_list (t_compM (e := (eL eI)) (e' := (eL eI)) _ (fun (row_424 : (List Int)) => row_424) (t_itL (e := (eL eI)) (t_varB (e := (eL (eL eI))) (a := types_314) rfl)) (fun row_424 => tg_set) (fun row_424 => t_list (t_listL (e := eI) (t_varB (e := (eL eI)) (a := row_424) rfl))))) (t_list (t_listL (e := eI) (t_varB (e := (eL eI)) (a := chosen_367) rfl)))) fun told_423 =>
     s_if rfl (t_tb (t_e2 (op_ne eBo) (t_e2 (op_isN (e := (eL eI))) (t_varB (e := (eO (eL eI))) (a := told_423) rfl) (t_non)) (t_e2 (op_ne (eL (eL eI))) (t_varB (e := (eL (eL eI))) (a := rounds_397) rfl) (t_list (t_lnil)))))
     (s_retF (t_bl))
     (s_skip (s_set (e := (eL (eL eI))) rfl (t_list (t_lcons (t_list (t_comp (e := eI) (e' := eI) _ (fun (t_441 : Int) => Res.ok (true)) (fun (t_441 : Int) => ((Res.ok (draws_285)).bind fun t_442 => (Res.ok (((k_290 + (50 : Int)) + t_441))).bind fun t_443 => (Res.ok (p_313.2.2)).bind fun t_444 => TyC.s__law_mix t_442 t_443 t_444)) (t_b1 b_rg1 (t_varB (e := eI) (a := p_313.1) rfl)) (fun t_441 => tg_set) (fun t_441 => t_true) (fun t_441 => t_f3 t__law_mix (t_var (e := (eL eI)) (a := draws_285) rfl) (t_e2 op_add (t_e2 op_add (t_varB (e := eI) (a := k_290) rfl) (t_i)) (t_varB (e := eI) (a := t_441) rfl)) (t_var (e := eI) (a := p_313.2.2) rfl)))) (t_lcons (t_list (t_comp (e := eI) (e' := eI) _ (fun (end_433 : Int) => Res.ok (true)) (fun (end_433 : Int) => ((Res.ok (prices_332)).bind fun t_434 => (Res.ok (end_433)).bind fun t_435 => atR t_434 t_435)) (t_itL (e := eI) (t_varB (e := (eL eI)) (a := chosen_367) rfl)) (fun end_433 => tg_set) (fun end_433 => t_true) (fun end_433 => t_e2 (op_ix (e := eI)) (t_varB (e := (eL eI)) (a := prices_332) rfl) (t_varB (e := eI) (a := end_433) rfl)))) (t_lcons (t_e2 (op_rep (e := eI)) (t_list (t_lcons (t_i) (t_lnil))) (t_varB (e := eI) (a := p_313.1) rfl)) (t_lnil))))) fun paids_428 =>
     s_joinF (E := fun (s_449 : (List (List Int))) => ([none, some (.val ((eL eI) draws_285)), none, some (.val (eI k_290)), some (.val (eI p_313.1)), some (.val (eI p_313.2.1)), none, some (.val ((eL (eL eI)) types_314)), none, some (.val ((eL (eL eI)) picks_340)), some (.val ((eL eI) chosen_367)), none, none, none, some (.val ((eO (eL eI)) told_423)), some (.val ((eL (eL eI)) s_449)), none, none, none, none, none, none, none, none, none, none, none] : Pn)) (e := eBo) rfl (s_last (s_if rfl (t_tb (t_e2 (op_isnN (e := (eL eI))) (t_varB (e := (eO (eL eI))) (a := told_423) rfl) (t_non)))
     (s_assoc (s_if rfl (t_or (t_tb (t_e2 (op_ne (eO (eL eI))) (t_varB (e := (eO (eL eI))) (a := told_423) rfl) (t_some (t_f2 t__law_greatest (t_var (e := (eL (eL eI))) (a := types_314) rfl) (t_var (e := (eL eI)) (a := chosen_367) rfl))))) (t_not (t_tb (t_f3 t__law_keeps (t_var (e := (eL (eL eI))) (a := types_314) rfl) (t_var (e := (eL eI)) (a := chosen_367) rfl) (t_unO (e := (eL eI)) (t_var (e := (eO (eL eI))) (a := told_423) rfl))))))
     (s_retNF (t_bl))
     (s_skip (s_assoc (s_set (e := eI) rfl (t_f3 t__law_mix (t_var (e := (eL eI)) (a := draws_285) rfl) (t_e2 op_add (t_varB (e := eI) (a := k_290) rfl) (t_i)) (t_var (e := eI) (a := p_313.1) rfl)) fun at_461 =>
     s_assoc (s_set (e := (eL (eL eI))) rfl (t_e2 (op_cat (e := (eL eI))) (t_varB (e := (eL (eL eI))) (a := paids_428) rfl) (t_list (t_lcons (t_unO (e := (eL eI)) (t_var (e := (eO (eL eI))) (a := told_423) rfl)) (t_lcons (t_e2 (op_cat (e := eI)) (t_e2 (op_cat (e := eI)) (t_slT (t_unO (e := (eL eI)) (t_varB (e := (eO (eL eI))) (a := told_423) rfl)) (t_none) (t_asI (t_varB (e := eI) (a := at_461) rfl))) (t_list (t_lcons (t_e2 op_add (t_e2 (op_ix (e := eI)) (t_unO (e := (eL eI)) (t_varB (e := (eO (eL eI))) (a := told_423) rfl)) (t_varB (e := eI) (a := at_461) rfl)) (t_i)) (t_lnil)))) (t_slT (t_unO (e := (eL eI)) (t_varB (e := (eO (eL eI))) (a := told_423) rfl)) (t_asI (t_e2 op_add (t_varB (e := eI) (a := at_461) rfl) (t_i))) (t_none))) (t_lcons (t_list (t_compM (e := eI) (e' := eI) _ (fun (one_467 : Int) => (one_467 + (7 : Int))) (t_itL (e := eI) (t_unO (e := (eL eI)) (t_varB (e := (eO (eL eI))) (a := told_423) rfl))) (fun one_467 => tg_set) (fun one_467 => t_e2 op_add (t_varB (e := eI) (a := one_467) rfl) (t_i)))) (t_lnil)))))) fun paids_465 =>
     s_if rfl (t_and (t_tb (t_cmp ci_gt (t_varB (e := eI) (a := at_461) rfl) (t_i))) (t_tb (t_f3 t__law_keeps (t_var (e := (eL (eL eI))) (a := types_314) rfl) (t_var (e := (eL eI)) (a := chosen_367) rfl) (t_e2 (op_ix (e := (eL eI))) (t_varB (e := (eL (eL eI))) (a := paids_465) rfl) (t_i)))))
     (s_retNF (t_bl))
     (s_skip (s_passNF (c := paids_465) [false, true, false, true, true, true, false, true, false, true, true, false, false, false, true, true, false, false, false, false, false, false, false, false, false, false, false] rfl))))))))
     (s_skip (s_passNF (c := paids_428) [false, true, false, true, true, true, false, true, false, true, true, false, false, false, true, true, false, false, false, false, false, false, false, false, false, false, false] rfl)))) retF fun s_449 =>
     s_forF (E := fun (s_504 : Unit) => ([none, some (.val ((eL eI) draws_285)), none, some (.val (eI k_290)), some (.val (eI p_313.1)), some (.val (eI p_313.2.1)), none, some (.val ((eL (eL eI)) types_314)), none, some (.val ((eL (eL eI)) picks_340)), some (.val ((eL eI) chosen_367)), none, none, none, some (.val ((eO (eL eI)) told_423)), some (.val ((eL (eL eI)) s_449)), none, none, none, none, none, none, none, none, none, none, none] : Pn)) (e := (eL eI)) (eR := eBo) rfl [false, true, false, true, true, true, false, true, false, true, true, false, false, false, true, true, false, false, false, false, false, false, false, false, false, false, false] (t_itL (e := (eL eI)) (t_var (e := (eL (eL eI))) (a := s_449) rfl)) rfl (fun s_504 x_505 => tg_set) (fun s_504 x_505 =>
     s_set (e := eBo) rfl (t_f3 t__law_keeps (t_var (e := (eL (eL eI))) (a := types_314) rfl) (t_var (e := (eL eI)) (a := chosen_367) rfl) (t_var (e := (eL eI)) (a := x_505) rfl)) fun good_659 =>
     s_if rfl (t_or (t_tb (t_e2 (op_ne eBo) (t_f3 t_keep_truth (t_list (t_compM (e := (eL eI)) (e' := (eL eI)) _ (fun (row_663 : (List Int)) => row_663) (t_itL (e := (eL eI)) (t_varB (e := (eL (eL eI))) (a := types_314) rfl)) (fun row_663 => tg_set) (fun row_663 => t_list (t_listL (e := eI) (t_varB (e := (eL eI)) (a := row_663) rfl))))) (t_list (t_listL (e := eI) (t_varB (e := (eL eI)) (a := chosen_367) rfl))) (t_list (t_listL (e := eI) (t_varB (e := (eL eI)) (a := x_505) rfl)))) (t_varB (e := eBo) (a := good_659) rfl))) (t_andP (t_tb (t_varB (e := eBo) (a := good_659) rfl)) (t_tb (t_e2 (op_isN (e := (eL eI))) (t_varB (e := (eO (eL eI))) (a := told_423) rfl) (t_non)))))
     (s_retF (t_bl))
     (s_skip (s_last (s_if rfl (t_and (t_tb (t_varB (e := eBo) (a := good_659) rfl)) (t_tb (t_e2 (op_ne (eL eI)) (t_list (t_comp (e := eI) (e' := eI) _ (fun (t_672 : Int) => ((((((Res.ok (x_505)).bind fun t_673 => (Res.ok (t_672)).bind fun t_674 => atR t_673 t_674)).bind fun t_677 => (((Res.ok (x_505)).bind fun t_675 => (Res.ok ((0 : Int))).bind fun t_676 => atR t_675 t_676)).bind fun t_678 => Res.ok ((t_677 - t_678)))).bind fun t_684 => (((((Res.ok (told_423)).bind fun t_681 => orOL t_681 (((Res.ok (((0 : Int) :: ([] : List Int)))).bind fun t_679 => (Res.ok (p_313.1)).bind fun t_680 => repR t_679 t_680)))).bind fun t_682 => (Res.ok (t_672)).bind fun t_683 => atR t_682 t_683)).bind fun t_685 => Res.ok ((decide (t_685 < t_684))))) (fun (t_672 : Int) => Res.ok (t_672)) (t_b1 b_rg1 (t_varB (e := eI) (a := p_313.1) rfl)) (fun t_672 => tg_set) (fun t_672 => t_tb (t_cmp ci_gt (t_e2 op_sub (t_e2 (op_ix (e := eI)) (t_varB (e := (eL eI)) (a := x_505) rfl) (t_varB (e := eI) (a := t_672) rfl)) (t_e2 (op_ix (e := eI)) (t_varB (e := (eL eI)) (a := x_505) rfl) (t_i))) (t_e2 (op_ix (e := eI)) (t_orOL (t_var (e := (eO (eL eI))) (a := told_423) rfl) (t_e2 (op_rep (e := eI)) (t_list (t_lcons (t_i) (t_lnil))) (t_varB (e := eI) (a := p_313.1) rfl))) (t_varB (e := eI) (a := t_672) rfl)))) (fun t_672 => t_var (e := eI) (a := t_672) rfl))) (t_list (t_lnil)))))
     (s_retF (t_bl))
     (s_skip (s_passF (c := ()) [false, true, false, true, true, true, false, true, false, true, true, false, false, false, true, true, false, false, false, false, false, false, false, false, false, false, false] rfl)))))) retF fun s_504 =>
     s_if rfl (t_and (t_tb (t_e2 (op_eq (eL eI)) (t_list (t_comp (e := eI) (e' := eI) _ (fun (t_514 : Int) => ((((Res.ok (chosen_367)).bind fun t_515 => (Res.ok (t_514)).bind fun t_516 => atR t_515 t_516)).bind fun t_519 => (((Res.ok (picks_340)).bind fun t_517 => (Res.ok (t_514)).bind fun t_518 => atR t_517 t_518)).bind fun t_520 => Res.ok ((!decide (t_519 ∈ t_520))))) (fun (t_514 : Int) => Res.ok (t_514)) (t_b1 b_rg1 (t_varB (e := eI) (a := p_313.1) rfl)) (fun t_514 => tg_set) (fun t_514 => t_tb (t_e2 (op_nin eI) (t_e2 (op_ix (e := eI)) (t_varB (e := (eL eI)) (a := chosen_367) rfl) (t_varB (e := eI) (a := t_514) rfl)) (t_e2 (op_ix (e := (eL eI))) (t_varB (e := (eL (eL eI))) (a := picks_340) rfl) (t_varB (e := eI) (a := t_514) rfl)))) (fun t_514 => t_var (e := eI) (a := t_514) rfl))) (t_list (t_lnil)))) (t_or (t_tb (t_e2 (op_isN (e := (eL eI))) (t_varB (e := (eO (eL eI))) (a := told_423) rfl) (t_non))) (t_not (t_tb (t_f3 t__law_keeps (t_var (e := (eL (eL eI))) (a := types_314) rfl) (t_var (e := (eL eI)) (a := chosen_367) rfl) (t_e2 (op_ix (e := (eL eI))) (t_varB (e := (eL (eL eI))) (a := s_449) rfl) (t_i)))))))
     (s_retF (t_bl))
     (s_skip (s_set (e := eI) rfl (t_f3 t__law_mix (t_var (e := (eL eI)) (a := draws_285) rfl) (t_e2 op_add (t_varB (e := eI) (a := k_290) rfl) (t_i)) (t_var (e := eI) (a := p_313.1) rfl)) fun at_526 =>
     s_set (e := (eL (eL (eL eI)))) rfl (t_list (t_comp (e := (eL eI)) (e' := (eL (eL eI))) _ (fun (bad_543 : (List Int)) => Res.ok (true)) (fun (bad_543 : (List Int)) => ((((Res.ok ((cutL types_314 none (some (at_526))))).bind fun t_544 => (Res.ok ((bad_543 :: ([] : List (List Int))))).bind fun t_545 => catR t_544 t_545)).bind fun t_546 => (Res.ok ((cutL types_314 (some ((at_526 + (1 : Int)))) none))).bind fun t_547 => catR t_546 t_547)) (t_itL (e := (eL eI)) (t_list (t_lcons (t_e2 (op_rep (e := eI)) (t_list (t_lcons (t_e1 op_neg (t_i)) (t_lnil))) (t_varB (e := eI) (a := p_313.2.1) rfl)) (t_lcons (t_e2 (op_rep (e := eI)) (t_list (t_lcons (t_i) (t_lnil))) (t_varB (e := eI) (a := p_313.2.1) rfl)) (t_lcons (t_e2 (op_rep (e := eI)) (t_list (t_lcons (t_i) (t_lnil))) (t_e2 op_add (t_varB (e := eI) (a := p_313.2.1) rfl) (t_i))) (t_lnil)))))) (fun bad_543 => tg_set) (fun bad_543 => t_true) (fun bad_543 => t_e2 (op_cat (e := (eL eI))) (t_e2 (op_cat (e := (eL eI))) (t_slT (t_varB (e := (eL (eL eI))) (a := types_314) rfl) (t_none) (t_asI (t_varB (e := eI) (a := at_526) rfl))) (t_list (t_lcons (t_var (e := (eL eI)) (a := bad_543) rfl) (t_lnil)))) (t_slT (t_varB (e := (eL (eL eI))) (a := types_314) rfl) (t_asI (t_e2 op_add (t_varB (e := eI) (a := at_526) rfl) (t_i))) (t_none))))) fun bents_530 =>
     s_set (e := (eL (eP eS eI))) rfl (t_list (t_lcons (t_tup2 (t_st) (t_var (e := eI) (a := at_526) rfl)) (t_lcons (t_tup2 (t_st) (t_var (e := eI) (a := at_526) rfl)) (t_lcons (t_tup2 (t_st) (t_e2 (op_ix (e := eI)) (t_list (t_lcons (t_var (e := eI) (a := at_526) rfl) (t_lcons (t_i) (t_lnil)))) (t_b1 b_intB (t_cmp ci_eq (t_varB (e := eI) (a := at_526) rfl) (t_i))))) (t_lnil))))) fun due_550 =>
     s_if rfl (t_and (t_tb (t_cmp ci_gt (t_varB (e := eI) (a := p_313.1) rfl) (t_i))) (t_tb (t_e2 (op_neR (eL (eL (eO (eP eS eI)))) (eL (eL (eP eS eI)))) (t_list (t_comp (e := (eL (eL eI))) (e' := (eL (eO (eP eS eI)))) _ (fun (bent_561 : (List (List Int))) => Res.ok (true)) (fun (bent_561 : (List (List Int))) => ((((Res.ok ((4 : Int))).bind fun t_562 => rngR t_562)).bind fun t_569 => compR (fun (which_563 : Int) => Res.ok (true)) (fun (which_563 : Int) => ((Res.ok (which_563)).bind fun t_564 => (Res.ok (bent_561)).bind fun t_565 => (Res.ok (((99 : Int) :: ([] : List Int)))).bind fun t_566 => (Res.ok (([] : List Int))).bind fun t_567 => s__law_refused t_564 t_565 t_566 t_567)) t_569)) (t_itL (e := (eL (eL eI))) (t_varB (e := (eL (eL (eL eI)))) (a := bents_530) rfl)) (fun bent_561 => tg_set) (fun bent_561 => t_true) (fun bent_561 => t_list (t_comp (e := eI) (e' := (eO (eP eS eI))) _ (fun (which_563 : Int) => Res.ok (true)) (fun (which_563 : Int) => ((Res.ok (which_563)).bind fun t_564 => (Res.ok (bent_561)).bind fun t_565 => (Res.ok (((99 : Int) :: ([] : List Int)))).bind fun t_566 => (Res.ok (([] : List Int))).bind fun t_567 => s__law_refused t_564 t_565 t_566 t_567)) (t_b1 b_rg1 (t_i)) (fun which_563 => tg_set) (fun which_563 => t_true) (fun which_563 => t_f4 t__law_refused (t_var (e := eI) (a := which_563) rfl) (t_var (e := (eL (eL eI))) (a := bent_561) rfl) (t_list (t_lcons (t_i) (t_lnil))) (t_list (t_lnil))))))) (t_list (t_comp (e := (eP eS eI)) (e' := (eL (eP eS eI))) _ (fun (one_572 : (Str × Int)) => Res.ok (true)) (fun (one_572 : (Str × Int)) => ((Res.ok ((one_572 :: ([] : List (Str × Int))))).bind fun t_573 => (Res.ok ((4 : Int))).bind fun t_574 => repR t_573 t_574)) (t_itL (e := (eP eS eI)) (t_varB (e := (eL (eP eS eI))) (a := due_550) rfl)) (fun one_572 => tg_set) (fun one_572 => t_true) (fun one_572 => t_e2 (op_rep (e := (eP eS eI))) (t_list (t_lcons (t_var (e := (eP eS eI)) (a := one_572) rfl) (t_lnil))) (t_i)))))))
     (s_retF (t_bl))
     (s_skip (s_if rfl (t_or (t_tb (t_e2 (op_neR (eL (eO (eP eS eI))) (eL (eP eS eI))) (t_list (t_comp (e := eI) (e' := (eO (eP eS eI))) _ (fun (which_595 : Int) => Res.ok (true)) (fun (which_595 : Int) => ((Res.ok (which_595)).bind fun t_596 => (Res.ok (([] : List (List Int)))).bind fun t_597 => (Res.ok (([] : List Int))).bind fun t_598 => (Res.ok (([] : List Int))).bind fun t_599 => s__law_refused t_596 t_597 t_598 t_599)) (t_b1 b_rg1 (t_i)) (fun which_595 => tg_set) (fun which_595 => t_true) (fun which_595 => t_f4 t__law_refused (t_var (e := eI) (a := which_595) rfl) (t_list (t_lnil)) (t_list (t_lnil)) (t_list (t_lnil))))) (t_e2 (op_rep (e := (eP eS eI))) (t_list (t_lcons (t_tup2 (t_st) (t_e1 op_neg (t_i))) (t_lnil))) (t_i)))) (t_tb (t_e2 (op_neR (eL (eO (eP eS eI))) (eL (eP eS eI))) (t_list (t_comp (e := eI) (e' := (eO (eP eS eI))) _ (fun (which_581 : Int) => Res.ok (true)) (fun (which_581 : Int) => ((Res.ok (which_581)).bind fun t_584 => (((Res.ok ((((1 : Int) :: ([] : List Int)) :: ([] : List (List Int))))).bind fun t_582 => (Res.ok ((7 : Int))).bind fun t_583 => repR t_582 t_583)).bind fun t_585 => (Res.ok (([] : List Int))).bind fun t_586 => (Res.ok (([] : List Int))).bind fun t_587 => s__law_refused t_584 t_585 t_586 t_587)) (t_b1 b_rg1 (t_i)) (fun which_581 => tg_set) (fun which_581 => t_true) (fun which_581 => t_f4 t__law_refused (t_var (e := eI) (a := which_581) rfl) (t_e2 (op_rep (e := (eL eI))) (t_list (t_lcons (t_list (t_lcons (t_i) (t_lnil))) (t_lnil))) (t_i)) (t_list (t_lnil)) (t_list (t_lnil))))) (t_e2 (op_rep (e := (eP eS eI))) (t_list (t_lcons (t_tup2 (t_st) (t_e1 op_neg (t_i))) (t_lnil))) (t_i)))))
     (s_retF (t_bl))
     (s_skip (s_set (e := (eL eI)) rfl (t_e2 (op_cat (e := eI)) (t_e2 (op_cat (e := eI)) (t_slT (t_varB (e := (eL eI)) (a := chosen_367) rfl) (t_none) (t_asI (t_varB (e := eI) (a := at_526) rfl))) (t_list (t_lcons (t_e2 (op_ix (e := eI)) (t_list (t_lcons (t_var (e := eI) (a := p_313.2.1) rfl) (t_lcons (t_e1 op_neg (t_i)) (t_lnil)))) (t_f3 t__law_mix (t_var (e := (eL eI)) (a := draws_285) rfl) (t_e2 op_add (t_varB (e := eI) (a := k_290) rfl) (t_i)) (t_i))) (t_lnil)))) (t_slT (t_varB (e := (eL eI)) (a := chosen_367) rfl) (t_asI (t_e2 op_add (t_varB (e := eI) (a := at_526) rfl) (t_i))) (t_none))) fun odd_607 =>
     s_if rfl (t_or (t_tb (t_e2 (op_neR (eL (eO (eP eS eI))) (eL (eP eS eI))) (t_list (t_comp (e := eI) (e' := (eO (eP eS eI))) _ (fun (which_632 : Int) => Res.ok (true)) (fun (which_632 : Int) => ((Res.ok (which_632)).bind fun t_633 => (Res.ok (types_314)).bind fun t_634 => (Res.ok (odd_607)).bind fun t_635 => (Res.ok (([] : List Int))).bind fun t_636 => s__law_refused t_633 t_634 t_635 t_636)) (t_b1 b_rg1 (t_i)) (fun which_632 => tg_set) (fun which_632 => t_true) (fun which_632 => t_f4 t__law_refused (t_var (e := eI) (a := which_632) rfl) (t_var (e := (eL (eL eI))) (a := types_314) rfl) (t_var (e := (eL eI)) (a := odd_607) rfl) (t_list (t_lnil))))) (t_e2 (op_rep (e := (eP eS eI))) (t_list (t_lcons (t_tup2 (t_st) (t_var (e := eI) (a := at_526) rfl)) (t_lnil))) (t_i)))) (t_tb (t_e2 (op_neR (eL (eO (eP eS eI))) (eL (eP eS eI))) (t_list (t_comp (e := eI) (e' := (eO (eP eS eI))) _ (fun (which_620 : Int) => Res.ok (true)) (fun (which_620 : Int) => ((Res.ok (which_620)).bind fun t_621 => (Res.ok (types_314)).bind fun t_622 => (Res.ok ((cutL chosen_367 (some ((1 : Int))) none))).bind fun t_623 => (Res.ok (([] : List Int))).bind fun t_624 => s__law_refused t_621 t_622 t_623 t_624)) (t_b1 b_rg1 (t_i)) (fun which_620 => tg_set) (fun which_620 => t_true) (fun which_620 => t_f4 t__law_refused (t_var (e := eI) (a := which_620) rfl) (t_var (e := (eL (eL eI))) (a := types_314) rfl) (t_slT (t_varB (e := (eL eI)) (a := chosen_367) rfl) (t_asI (t_i)) (t_none)) (t_list (t_lnil))))) (t_e2 (op_rep (e := (eP eS eI))) (t_list (t_lcons (t_tup2 (t_st) (t_var (e := eI) (a := p_313.1) rfl)) (t_lnil))) (t_i)))))
     (s_retF (t_bl))
     (s_skip (s_last (s_if rfl (t_or (t_tb (t_e2 (op_neR (eO (eP eS eI)) (eP eS eI)) (t_f4 t__law_refused (t_i) (t_var (e := (eL (eL eI))) (a := types_314) rfl) (t_var (e := (eL eI)) (a := chosen_367) rfl) (t_e2 (op_rep (e := eI)) (t_list (t_lcons (t_i) (t_lnil))) (t_e2 op_add (t_varB (e := eI) (a := p_313.1) rfl) (t_i)))) (t_tup2 (t_st) (t_i)))) (t_tb (t_e2 (op_neR (eO (eP eS eI)) (eP eS eI)) (t_f4 t__law_refused (t_i) (t_var (e := (eL (eL eI))) (a := types_314) rfl) (t_var (e := (eL eI)) (a := chosen_367) rfl) (t_list (t_lnil))) (t_tup2 (t_st) (t_i)))))
     (s_retF (t_bl))
     (s_skip (s_passF (c := ()) [false, true, false, false, false, false, false, false, false, false, false, false, false, false, false, false, false, false, false, false, false, false, false, false, false, false, false] rfl)))))))))))))))) retT fun s_288 =>
     s_last (s_ret (t_bl)))
end K42
/-! P42a: rounds, walks, potentials. -/
namespace K42M
section
variable (lk : Int → Int → Int)
def pth : List Int → Int
  | a :: b :: r => lk a b + pth (b :: r)
  | _ => 0
def pw : List Int → Int
  | a :: b :: r => -lk b a + pw (b :: r)
  | _ => 0
def cyc : List Int → Int
  | [] => 0
  | a :: r => pth lk (a :: (r ++ [a]))
theorem pth_app (a : Int) : ∀ (p q : List Int), pth lk (p ++ a :: q) = pth lk (p ++ [a]) + pth lk (a :: q)
  | [], q => by simp [pth]
  | [x], q => by simp [pth]
  | x :: y :: p, q => by
    have := pth_app a (y :: p) q
    simp only [List.cons_append, pth] at this ⊢
    omega
theorem pw_app (a : Int) : ∀ (p q : List Int), pw lk (p ++ a :: q) = pw lk (p ++ [a]) + pw lk (a :: q)
  | [], q => by simp [pw]
  | [x], q => by simp [pw]
  | x :: y :: p, q => by
    have := pw_app a (y :: p) q
    simp only [List.cons_append, pw] at this ⊢
    omega
theorem pw_rev : ∀ p : List Int, pw lk p = -pth lk p.reverse
  | [] => rfl
  | [_] => rfl
  | a :: b :: r => by
    have ih := pw_rev (b :: r)
    have e : (a :: b :: r).reverse = r.reverse ++ b :: [a] := by simp
    have e2 : (b :: r).reverse = r.reverse ++ [b] := by simp
    rw [e, pth_app, ← e2]
    simp only [pw, pth]
    omega
theorem cyc_rot : ∀ (p q : List Int), cyc lk (p ++ q) = cyc lk (q ++ p)
  | [], q => by simp
  | p, [] => by simp
  | a :: p, b :: q => by
    have e1 : a :: (p ++ b :: q ++ [a]) = (a :: p) ++ b :: (q ++ [a]) := by simp
    have e2 : b :: (q ++ a :: p ++ [b]) = (b :: q) ++ a :: (p ++ [b]) := by simp
    show pth lk (a :: (p ++ b :: q ++ [a])) = pth lk (b :: (q ++ a :: p ++ [b]))
    rw [e1, e2, pth_app, pth_app lk a (b :: q)]
    simp only [List.cons_append]
    omega
/-- payments that keep the truth -/
def Keep (n : Nat) (p : Int → Int) : Prop := ∀ a b : Int, 0 ≤ a → a < n → 0 ≤ b → b < n → lk a b ≤ p b - p a
variable {lk}
theorem keep_pth {n : Nat} {p : Int → Int} (h : Keep lk n p) : ∀ (r : List Int) (a b : Int), (∀ x ∈ a :: (r ++ [b]), 0 ≤ x ∧ x < n) → pth lk (a :: (r ++ [b])) ≤ p b - p a
  | [], a, b, hx => by
    have h1 := hx a (by simp)
    have h2 := hx b (by simp)
    have := h a b h1.1 h1.2 h2.1 h2.2
    simp only [List.nil_append, pth]
    omega
  | c :: r, a, b, hx => by
    have h1 := hx a (by simp)
    have h2 := hx c (by simp)
    have := h a c h1.1 h1.2 h2.1 h2.2
    have ih := keep_pth h r c b fun x m => hx x (by simp only [List.cons_append, List.mem_cons] at m ⊢; exact .inr m)
    simp only [List.cons_append, pth]
    omega
theorem keep_cyc {n : Nat} {p : Int → Int} (h : Keep lk n p) (r : List Int) (hx : ∀ x ∈ r, 0 ≤ x ∧ x < n) : cyc lk r ≤ 0 := by
  cases r with
  | nil => exact Int.le_refl _
  | cons a r =>
    have := keep_pth h r a a fun x m => hx x (by simp only [List.mem_cons, List.mem_append, List.not_mem_nil, or_false] at m ⊢; rcases m with m | m | m <;> simp [m])
    show pth lk (a :: (r ++ [a])) ≤ 0
    omega
theorem keep_pw {n : Nat} {p : Int → Int} (h : Keep lk n p) : ∀ (r : List Int) (a b : Int), (∀ x ∈ a :: (r ++ [b]), 0 ≤ x ∧ x < n) → p b ≤ p a + pw lk (a :: (r ++ [b]))
  | [], a, b, hx => by
    have h1 := hx a (by simp)
    have h2 := hx b (by simp)
    have := h b a h2.1 h2.2 h1.1 h1.2
    simp only [List.nil_append, pw]
    omega
  | c :: r, a, b, hx => by
    have h1 := hx a (by simp)
    have h2 := hx c (by simp)
    have := h c a h2.1 h2.2 h1.1 h1.2
    have ih := keep_pw h r c b fun x m => hx x (by simp only [List.cons_append, List.mem_cons] at m ⊢; exact .inr m)
    simp only [List.cons_append, pw]
    omega
/-- a row of unlike types -/
def Row (n : Nat) (r : List Int) : Prop := r.Nodup ∧ ∀ x ∈ r, 0 ≤ x ∧ x < n
/-- a part that is closed, and is a row -/
theorem cut : ∀ l : List Int, ¬ l.Nodup → ∃ a x b c, l = a ++ x :: (b ++ x :: c) ∧ (x :: b).Nodup
  | [], h => absurd List.nodup_nil h
  | y :: l, h => by
    by_cases hl : l.Nodup
    · have hy : y ∈ l := by
        by_cases z : y ∈ l
        · exact z
        · exact absurd (List.nodup_cons.mpr ⟨z, hl⟩) h
      obtain ⟨b, c, e⟩ := List.append_of_mem hy
      refine ⟨[], y, b, c, by rw [e]; rfl, ?_⟩
      rw [e] at hl
      have h1 := List.nodup_append.mp hl
      refine List.nodup_cons.mpr ⟨fun z => ?_, h1.1⟩
      exact h1.2.2 y z y (List.mem_cons_self ..) rfl
    · obtain ⟨a, x, b, c, e, hn⟩ := cut l hl
      exact ⟨y :: a, x, b, c, by rw [e]; rfl, hn⟩
/-- no round gains -/
def NoGain (lk : Int → Int → Int) (n : Nat) : Prop := ∀ r, Row n r → cyc lk r ≤ 0
theorem closed_pw {n : Nat} (hg : NoGain lk n) (x : Int) (b : List Int) (hn : (x :: b).Nodup) (hx : ∀ y ∈ x :: b, 0 ≤ y ∧ y < n) : 0 ≤ pw lk (x :: (b ++ [x])) := by
  rw [pw_rev]
  have e : (x :: (b ++ [x])).reverse = x :: (b.reverse ++ [x]) := by simp
  rw [e]
  have hr : Row n (x :: b.reverse) := by
    refine ⟨?_, fun y hy => hx y (by simpa using hy)⟩
    have h1 := List.nodup_cons.mp hn
    exact List.nodup_cons.mpr ⟨by simpa using h1.1, (List.reverse_perm b).nodup_iff.mpr h1.2⟩
  have := hg _ hr
  have e2 : cyc lk (x :: b.reverse) = pth lk (x :: (b.reverse ++ [x])) := rfl
  omega
/-- walks have rows within them that cost no more -/
theorem to_row {n : Nat} (hg : NoGain lk n) : ∀ (k : Nat) (l : List Int), l.length ≤ k → l ≠ [] → (∀ y ∈ l, 0 ≤ y ∧ y < n) → ∃ r, Row n r ∧ r ≠ [] ∧ r.head? = l.head? ∧ r.getLast? = l.getLast? ∧ pw lk r ≤ pw lk l
  | 0, l, hk, hne, _ => absurd (List.length_eq_zero_iff.mp (Nat.le_zero.mp hk)) hne
  | k + 1, l, hk, hne, hx => by
    by_cases hl : l.Nodup
    · exact ⟨l, ⟨hl, hx⟩, hne, rfl, rfl, Int.le_refl _⟩
    · obtain ⟨a, x, b, c, e, hn⟩ := cut l hl
      have hlen : (a ++ x :: c).length ≤ k := by
        have := congrArg List.length e
        simp only [List.length_append, List.length_cons] at this ⊢
        omega
      obtain ⟨r, h1, h2, h3, h4, h5⟩ := to_row hg k (a ++ x :: c) hlen (by simp) fun y hy => hx y (by
        rw [e]
        simp only [List.mem_append, List.mem_cons] at hy ⊢
        rcases hy with h | h | h <;> simp [h])
      have hc := closed_pw hg x b hn fun y hy => hx y (by
        rw [e]
        simp only [List.mem_append, List.mem_cons] at hy ⊢
        rcases hy with h | h <;> simp [h])
      have w1 : pw lk l = pw lk (a ++ [x]) + (pw lk (x :: (b ++ [x])) + pw lk (x :: c)) := by
        rw [e, pw_app, show x :: (b ++ x :: c) = (x :: b) ++ x :: c from rfl, pw_app lk x (x :: b)]
        rfl
      have w2 : pw lk (a ++ x :: c) = pw lk (a ++ [x]) + pw lk (x :: c) := pw_app lk x a c
      refine ⟨r, h1, h2, ?_, ?_, by omega⟩
      · rw [h3, e]; cases a <;> simp
      · rw [h4, e]
        have e1 : a ++ x :: (b ++ x :: c) = (a ++ x :: b) ++ x :: c := by simp
        rw [e1, List.getLast?_append, List.getLast?_append]
        simp [List.getLast?_cons]
end
end K42M
/-! P42b: what the typed functions reckon of a good rule. -/
namespace K42
open PySem PySem.Spec PyProof.Rows L2 Pf LawC K42M
structure Rule (types : List (List Int)) (chosen : List Int) (n e : Nat) : Prop where
  len : types.length = n
  lenc : chosen.length = n
  n1 : 1 ≤ n
  n6 : n ≤ 5
  e1 : 1 ≤ e
  e5 : e ≤ 5
  row : ∀ r ∈ types, r.length = e ∧ ∀ w ∈ r, 0 ≤ w ∧ w ≤ 1000000
  ch : ∀ c ∈ chosen, 0 ≤ c ∧ c < e
def lkF (types : List (List Int)) (chosen : List Int) (a b : Int) : Int := (types.getD a.toNat []).getD (chosen.getD b.toNat 0).toNat 0 - (types.getD a.toNat []).getD (chosen.getD a.toNat 0).toNat 0
def pf (paid : List Int) (a : Int) : Int := paid.getD a.toNat 0
section
variable {types : List (List Int)} {chosen : List Int} {n e : Nat}
theorem lk_self (a : Int) : lkF types chosen a a = 0 := by unfold lkF; omega
theorem likes_ok (R : Rule types chosen n e) {a b : Int} (ha : 0 ≤ a ∧ a < n) (hb : 0 ≤ b ∧ b < n) : s_likes_more types chosen a b = .ok (lkF types chosen a b) := by
  have hlen := R.len
  have hlc := R.lenc
  have h1 : atR types a = .ok (types.getD a.toNat []) := atR_int ha.1 (by omega) []
  have h2 : atR chosen b = .ok (chosen.getD b.toNat 0) := atR_int hb.1 (by omega) 0
  have h3 : atR chosen a = .ok (chosen.getD a.toNat 0) := atR_int ha.1 (by omega) 0
  have c2 := R.ch _ (getD_mem 0 (show b.toNat < chosen.length by omega))
  have c3 := R.ch _ (getD_mem 0 (show a.toNat < chosen.length by omega))
  have r1 := (R.row _ (getD_mem [] (show a.toNat < types.length by omega))).1
  have h4 : atR (types.getD a.toNat []) (chosen.getD b.toNat 0) = .ok ((types.getD a.toNat []).getD (chosen.getD b.toNat 0).toNat 0) := atR_int c2.1 (by omega) 0
  have h5 : atR (types.getD a.toNat []) (chosen.getD a.toNat 0) = .ok ((types.getD a.toNat []).getD (chosen.getD a.toNat 0).toNat 0) := atR_int c3.1 (by omega) 0
  unfold s_likes_more
  simp only [Res.bind_ok, h1, h2, h3, h4, h5]
  rfl
theorem more_ok (R : Rule types chosen n e) {a b : Int} (ha : 0 ≤ a ∧ a < n) (hb : 0 ≤ b ∧ b < n) : s__law_more types chosen a b = .ok (lkF types chosen a b) := likes_ok R ha hb
theorem rng_n (R : Rule types chosen n e) : rngR ((types.length : Nat) : Int) = .ok (rngI 0 n) := by
  have := R.n6
  rw [rngR_ok (by have := R.len; omega), R.len]; rfl
theorem mem_n {n : Nat} {x : Int} : x ∈ rngI 0 n ↔ 0 ≤ x ∧ x < n := by rw [mem_rngI]; omega
/-! ### payments that keep the truth -/
def keepB (n : Nat) (lk : Int → Int → Int) (p : Int → Int) : Bool := !((rngI 0 n).any fun a => (rngI 0 n).any fun b => decide (p b - p a < lk a b))
theorem keepB_iff {lk : Int → Int → Int} {p : Int → Int} : keepB n lk p = true ↔ Keep lk n p := by
  unfold keepB Keep
  simp only [Bool.not_eq_true', List.any_eq_false, mem_n, decide_eq_true_eq, Bool.not_eq_true, List.any_eq_false]
  constructor
  · intro h a b h1 h2 h3 h4
    have := h a ⟨h1, h2⟩ b ⟨h3, h4⟩
    omega
  · intro h a ha b hb
    have := h a b ha.1 ha.2 hb.1 hb.2
    omega
theorem pf_at {paid : List Int} (hl : paid.length = n) {a : Int} (ha : 0 ≤ a ∧ a < n) : atR paid a = .ok (pf paid a) := atR_int ha.1 (by omega) 0
theorem keep_ok (R : Rule types chosen n e) {paid : List Int} (hl : paid.length = n) : s_does_keep types chosen paid = .ok (keepB n (lkF types chosen) (pf paid)) := by
  unfold s_does_keep
  simp only [Res.bind_ok, rng_n R]
  rw [forR_ret (v := false) (fun a => (rngI 0 n).any fun b => decide (pf paid b - pf paid a < lkF types chosen a b))]
  · unfold keepB
    cases (rngI 0 n).any fun a => (rngI 0 n).any fun b => decide (pf paid b - pf paid a < lkF types chosen a b) <;> rfl
  · intro a ha
    have ha := mem_n.mp ha
    unfold s_does_keep_2
    simp only [Res.bind_ok, rng_n R]
    rw [forR_ret (v := false) (fun b => decide (pf paid b - pf paid a < lkF types chosen a b))]
    · cases (rngI 0 n).any fun b => decide (pf paid b - pf paid a < lkF types chosen a b) <;> rfl
    · intro b hb
      have hb := mem_n.mp hb
      unfold s_does_keep_1
      simp only [Res.bind_ok, likes_ok R ha hb, pf_at hl ha, pf_at hl hb]
      by_cases q : pf paid b - pf paid a < lkF types chosen a b
      · simp [q]
      · simp [q]
theorem filter_nil_any {α : Type} (p : α → Bool) : ∀ xs : List α, decide (xs.filter p = []) = !xs.any p
  | [] => rfl
  | x :: xs => by
    have ih := filter_nil_any p xs
    cases e : p x with
    | true => simp [e]
    | false =>
      rw [List.filter_cons, if_neg (by simp [e]), List.any_cons, e, Bool.false_or]
      exact ih
theorem lkeep_ok (R : Rule types chosen n e) {paid : List Int} (hl : paid.length = n) : s__law_keeps types chosen paid = .ok (keepB n (lkF types chosen) (pf paid)) := by
  unfold s__law_keeps
  simp only [Res.bind_ok, rng_n R]
  have hin : ∀ a, a ∈ rngI 0 n → compR (fun (two : Int) => (s__law_more types chosen a two).bind fun t => ((atR paid two).bind fun t1 => (atR paid a).bind fun t2 => Res.ok (t1 - t2)).bind fun t3 => Res.ok (decide (t3 < t))) (fun (two : Int) => Res.ok two) (rngI 0 n) = .ok ((rngI 0 n).filter fun b => decide (pf paid b - pf paid a < lkF types chosen a b)) := fun a ha => by
    have ha := mem_n.mp ha
    rw [compR_ok (q := fun b => decide (pf paid b - pf paid a < lkF types chosen a b)) (g := fun b => b) (fun b hb => ?_) fun b hb _ => rfl, List.map_id']
    have hb := mem_n.mp hb
    simp only [Res.bind_ok, more_ok R ha hb, pf_at hl ha, pf_at hl hb]
  rw [compR_ok (q := fun a => (rngI 0 n).any fun b => decide (pf paid b - pf paid a < lkF types chosen a b)) (g := fun a => a) (fun a ha => ?_) fun a ha _ => rfl, List.map_id', Res.bind_ok, filter_nil_any]
  · rfl
  · rw [hin a ha, Res.bind_ok, filter_nil_any, Bool.not_not]
/-! ### sums -/
theorem pth_sum (lk : Int → Int → Int) : ∀ r : List Int, ((List.range (r.length - 1)).map fun k => lk (r.getD k 0) (r.getD (k + 1) 0)).sum = pth lk r
  | [] => rfl
  | [_] => rfl
  | a :: b :: r => by
    have ih := pth_sum lk (b :: r)
    have e : (a :: b :: r).length - 1 = (b :: r).length - 1 + 1 := by simp
    rw [e, List.range_succ_eq_map, List.map_cons, List.map_map, List.sum_cons]
    unfold pth
    rw [← ih]
    rfl
theorem pw_sum (lk : Int → Int → Int) : ∀ r : List Int, ((List.range (r.length - 1)).map fun k => -lk (r.getD (k + 1) 0) (r.getD k 0)).sum = pw lk r
  | [] => rfl
  | [_] => rfl
  | a :: b :: r => by
    have ih := pw_sum lk (b :: r)
    have e : (a :: b :: r).length - 1 = (b :: r).length - 1 + 1 := by simp
    rw [e, List.range_succ_eq_map, List.map_cons, List.map_map, List.sum_cons]
    unfold pw
    rw [← ih]
    rfl
theorem row_at {r : List Int} {k : Nat} (h : k < r.length) : atR r (k : Int) = .ok (r.getD k 0) := atR_D 0 h
theorem row_val {r : List Int} (hr : ∀ x ∈ r, 0 ≤ x ∧ x < n) {k : Nat} (h : k < r.length) : 0 ≤ r.getD k 0 ∧ r.getD k 0 < n := hr _ (getD_mem 0 h)
theorem sum_round_ok (R : Rule types chosen n e) {r : List Int} (hr : ∀ x ∈ r, 0 ≤ x ∧ x < n) (hl : r.length ≤ 100) : s_sum_round types chosen r = .ok (cyc (lkF types chosen) r) := by
  unfold s_sum_round
  simp only [Res.bind_ok, rngR_nat (show r.length ≤ 16777216 by omega)]
  cases r with
  | nil => rfl
  | cons a r =>
    let lk := lkF types chosen
    have hlast : atR (a :: r) (-1) = .ok ((a :: r).getD r.length 0) := by
      rw [atR_last (by simp)]
      simp [List.getD_eq_getElem?_getD, List.getElem?_eq_getElem]
    rw [mapR_ok (g := fun k : Int => if k = 0 then lk ((a :: r).getD r.length 0) a else lk ((a :: r).getD (k.toNat - 1) 0) ((a :: r).getD k.toNat 0))]
    · simp only [Res.bind_ok, List.map_map]
      congr 1
      have e : (a :: r).length = r.length + 1 := by simp
      rw [e, List.range_succ_eq_map, List.map_cons, List.map_map, List.sum_cons]
      have h1 : ((fun k : Int => if k = 0 then lk ((a :: r).getD r.length 0) a else lk ((a :: r).getD (k.toNat - 1) 0) ((a :: r).getD k.toNat 0)) ∘ (fun i : Nat => (i : Int))) ∘ Nat.succ = fun k : Nat => lk ((a :: r).getD k 0) ((a :: r).getD (k + 1) 0) := by
        funext k
        simp only [Function.comp_apply]
        rw [if_neg (by omega), show ((k.succ : Nat) : Int).toNat - 1 = k by omega, show ((k.succ : Nat) : Int).toNat = k + 1 by omega]
      rw [h1, show r.length = (a :: r).length - 1 by simp, pth_sum lk (a :: r)]
      show lk ((a :: r).getD ((a :: r).length - 1) 0) a + pth lk (a :: r) = cyc lk (a :: r)
      -- the last pair
      obtain ⟨p, z, hz⟩ : ∃ p z, a :: r = p ++ [z] := ⟨(a :: r).dropLast, (a :: r).getLast (by simp), (List.dropLast_concat_getLast (by simp)).symm⟩
      have e2 : (a :: r).getD ((a :: r).length - 1) 0 = z := by rw [hz]; simp [List.getD_eq_getElem?_getD]
      rw [e2]
      show _ = pth lk (a :: (r ++ [a]))
      have e3 : a :: (r ++ [a]) = p ++ z :: [a] := by rw [← List.cons_append, hz]; simp
      rw [e3, pth_app, hz]
      simp only [pth]
      omega
    · intro k hk
      obtain ⟨i, hi, rfl⟩ := List.mem_map.mp hk
      have hi := List.mem_range.mp hi
      have ei : atR (a :: r) (i : Int) = .ok ((a :: r).getD i 0) := row_at hi
      by_cases q : i = 0
      · subst q
        have e0 : ((0 : Nat) : Int) - 1 = -1 := by omega
        simp only [e0, hlast, ei, Res.bind_ok]
        rw [likes_ok R (row_val hr (by simp)) (row_val hr (by simp))]
        simp; rfl
      · have e0 : ((i : Nat) : Int) - 1 = ((i - 1 : Nat) : Int) := by omega
        have ei1 : atR (a :: r) ((i - 1 : Nat) : Int) = .ok ((a :: r).getD (i - 1) 0) := row_at (by omega)
        simp only [e0, ei1, ei, Res.bind_ok]
        rw [likes_ok R (row_val hr (by omega)) (row_val hr hi), if_neg (by omega)]
        simp only [Int.toNat_natCast]; rfl
theorem lgain_ok (R : Rule types chosen n e) {r : List Int} (hr : ∀ x ∈ r, 0 ≤ x ∧ x < n) (hl : r.length ≤ 100) : s__law_gain types chosen r = .ok (cyc (lkF types chosen) r) := by
  unfold s__law_gain
  simp only [Res.bind_ok, rngR_nat (show r.length ≤ 16777216 by omega)]
  cases r with
  | nil => rfl
  | cons a r =>
    let lk := lkF types chosen
    have hcut : cutL (a :: r) none (some 1) = [a] := cutL_to (a :: r) 1
    have hcat : catR (a :: r) [a] = .ok (a :: (r ++ [a])) := catR_ok (by simp only [List.length_cons, List.length_nil] at *; omega)
    have hlen : (a :: (r ++ [a])).length = (a :: r).length + 1 := by simp
    rw [mapR_ok (g := fun k : Int => lk ((a :: (r ++ [a])).getD k.toNat 0) ((a :: (r ++ [a])).getD (k.toNat + 1) 0))]
    · simp only [Res.bind_ok, List.map_map]
      congr 1
      have := pth_sum lk (a :: (r ++ [a]))
      rw [hlen, Nat.add_sub_cancel] at this
      show _ = pth lk (a :: (r ++ [a]))
      rw [← this]
      rfl
    · intro k hk
      obtain ⟨i, hi, rfl⟩ := List.mem_map.mp hk
      have hi := List.mem_range.mp hi
      have hr2 : ∀ x ∈ a :: (r ++ [a]), 0 ≤ x ∧ x < n := fun x hx => hr x (by
        simp only [List.mem_cons, List.mem_append, List.not_mem_nil, or_false] at hx ⊢
        rcases hx with h | h | h <;> simp [h])
      have ei : atR (a :: r) (i : Int) = .ok ((a :: (r ++ [a])).getD i 0) := by
        rw [row_at hi]
        have : (a :: (r ++ [a])).getD i 0 = (a :: r).getD i 0 := by
          rw [← List.cons_append, List.getD_eq_getElem?_getD, List.getD_eq_getElem?_getD, List.getElem?_append_left hi]
        rw [this]
      have e1 : ((i : Nat) : Int) + 1 = ((i + 1 : Nat) : Int) := by omega
      have ej : atR (a :: (r ++ [a])) ((i + 1 : Nat) : Int) = .ok ((a :: (r ++ [a])).getD (i + 1) 0) := row_at (by omega)
      simp only [hcut, hcat, Res.bind_ok, e1, ej, ei]
      rw [more_ok R (row_val hr2 (by omega)) (row_val hr2 (by omega))]
      simp only [Int.toNat_natCast]; rfl
theorem lpw_ok (R : Rule types chosen n e) {r : List Int} (hr : ∀ x ∈ r, 0 ≤ x ∧ x < n) (hl : r.length ≤ 100) (h0 : r ≠ []) : ((rng2R 1 ((r.length : Nat) : Int)).bind fun t => (compR (fun _ => Res.ok true) (fun t : Int => ((atR r t).bind fun a => (atR r (t - 1)).bind fun b => s__law_more types chosen a b).bind fun z => Res.ok (-z)) t).bind fun s => Res.ok s.sum) = .ok (pw (lkF types chosen) r) := by
  have h1 : 1 ≤ r.length := List.length_pos_iff.mpr h0
  rw [rng2R_ok (by omega) (by omega) (by omega) (by omega) (by omega), Res.bind_ok]
  rw [mapR_ok (g := fun k : Int => -lkF types chosen (r.getD k.toNat 0) (r.getD (k.toNat - 1) 0))]
  · simp only [Res.bind_ok]
    congr 1
    rw [← pw_sum]
    unfold rngI
    rw [List.map_map, show ((r.length : Int) - 1).toNat = r.length - 1 by omega]
    congr 1
    refine List.map_congr_left fun k _ => ?_
    show -lkF types chosen (r.getD (1 + (k : Int)).toNat 0) (r.getD ((1 + (k : Int)).toNat - 1) 0) = _
    rw [show (1 + (k : Int)).toNat = k + 1 by omega]; rfl
  · intro k hk
    have hk := mem_rngI.mp hk
    obtain ⟨i, rfl⟩ : ∃ i : Nat, k = i := ⟨k.toNat, by omega⟩
    have e1 : ((i : Nat) : Int) - 1 = ((i - 1 : Nat) : Int) := by omega
    simp only [row_at (show i < r.length by omega), e1, row_at (show i - 1 < r.length by omega), Res.bind_ok]
    rw [more_ok R (row_val hr (by omega)) (row_val hr (by omega))]
    simp only [Res.bind_ok, Int.toNat_natCast]
end
end K42
/-! P42c: rows, one after the other; the greatest payments. -/
namespace K42
open PySem PySem.Spec PyProof.Rows L2 Pf LawC K42M
/-! ### rows, level by level -/
def ext (n : Nat) (r : List Int) : List (List Int) := ((rngI 0 n).filter fun k => !decide (k ∈ r)).map fun k => r ++ [k]
def lev (n : Nat) (first : List Int) : Nat → List (List Int)
  | 0 => first.map fun x => [x]
  | k + 1 => ((lev n first k).map (ext n)).flatten
def fnd (n : Nat) (first : List Int) : Nat → List (List Int)
  | 0 => []
  | k + 1 => fnd n first k ++ sortT (ltL ltI) (lev n first k)
theorem ext_len (n : Nat) (r : List Int) : (ext n r).length ≤ n := by
  unfold ext
  rw [List.length_map]
  exact Nat.le_trans (List.length_filter_le _ _) (by rw [rngI_len]; exact Nat.le_refl _)
theorem sum_le_mul {α : Type} (f : α → Nat) (b : Nat) : ∀ xs : List α, (∀ x ∈ xs, f x ≤ b) → (xs.map f).sum ≤ xs.length * b
  | [], _ => by simp
  | x :: xs, h => by
    have := sum_le_mul f b xs fun y hy => h y (List.mem_cons_of_mem _ hy)
    have := h x (List.mem_cons_self ..)
    rw [List.map_cons, List.sum_cons, List.length_cons, Nat.add_mul]
    omega
theorem lev_len {n : Nat} (hn : n ≤ 5) {first : List Int} (hf : first.length ≤ n) : ∀ k, (lev n first k).length ≤ 5 ^ (k + 1)
  | 0 => by simp [lev]; omega
  | k + 1 => by
    show (((lev n first k).map (ext n)).flatten).length ≤ _
    rw [List.length_flatten, List.map_map]
    have h1 := sum_le_mul (List.length ∘ ext n) 5 (lev n first k) fun x _ => Nat.le_trans (ext_len n x) hn
    have h2 := lev_len hn hf k
    rw [Nat.pow_succ 5 (k + 1)]
    omega
theorem mem_lev {n : Nat} {first : List Int} (hf : ∀ x ∈ first, 0 ≤ x ∧ x < n) : ∀ (k : Nat) (r : List Int), r ∈ lev n first k ↔ Row n r ∧ r.length = k + 1 ∧ ∃ x, r.head? = some x ∧ x ∈ first
  | 0, r => by
    constructor
    · intro h
      obtain ⟨x, hx, rfl⟩ := List.mem_map.mp h
      exact ⟨⟨by simp, fun y hy => by rw [List.mem_singleton.mp hy]; exact hf x hx⟩, rfl, x, rfl, hx⟩
    · rintro ⟨h1, h2, x, h3, h4⟩
      match r, h2, h3 with
      | [y], _, h3 =>
        have : y = x := by simpa using h3
        subst this
        exact List.mem_map.mpr ⟨y, h4, rfl⟩
  | k + 1, r => by
    have ih := mem_lev hf k
    show r ∈ ((lev n first k).map (ext n)).flatten ↔ _
    simp only [List.mem_flatten, List.mem_map]
    constructor
    · rintro ⟨_, ⟨s, hs, rfl⟩, hr⟩
      obtain ⟨⟨a1, a2⟩, b, x, c, d⟩ := (ih s).mp hs
      unfold ext at hr
      obtain ⟨y, hy, rfl⟩ := List.mem_map.mp hr
      obtain ⟨y1, y2⟩ := List.mem_filter.mp hy
      have y1 := mem_n.mp y1
      have y2 : y ∉ s := by simpa using y2
      refine ⟨⟨?_, fun z hz => ?_⟩, by simp [b], x, ?_, d⟩
      · refine List.nodup_append.mpr ⟨a1, by simp, fun u hu v hv => ?_⟩
        rw [List.mem_singleton.mp hv]
        exact fun e => y2 (e ▸ hu)
      · rcases List.mem_append.mp hz with hz | hz
        · exact a2 z hz
        · rw [List.mem_singleton.mp hz]; exact y1
      · cases s with
        | nil => simp at b
        | cons u s => simpa using c
    · rintro ⟨⟨a1, a2⟩, b, x, c, d⟩
      obtain ⟨s, y, rfl⟩ : ∃ s y, r = s ++ [y] := ⟨r.dropLast, r.getLast (by intro e; rw [e] at b; simp at b), (List.dropLast_concat_getLast _).symm⟩
      have h1 := List.nodup_append.mp a1
      have hl : s.length = k + 1 := by simpa using b
      refine ⟨_, ⟨s, (ih s).mpr ⟨⟨h1.1, fun z hz => a2 z (List.mem_append_left _ hz)⟩, hl, x, ?_, d⟩, rfl⟩, ?_⟩
      · cases s with
        | nil => simp at hl
        | cons u s => simpa using c
      · unfold ext
        refine List.mem_map.mpr ⟨y, List.mem_filter.mpr ⟨mem_n.mpr (a2 y (by simp)), ?_⟩, rfl⟩
        have : y ∉ s := fun z => h1.2.2 y z y (by simp) rfl
        simp [this]
theorem fnd_len {n : Nat} (hn : n ≤ 5) {first : List Int} (hf : first.length ≤ n) : ∀ k, (fnd n first k).length ≤ 5 ^ (k + 1)
  | 0 => by simp [fnd]
  | k + 1 => by
    have h1 := fnd_len hn hf k
    have h2 := lev_len hn hf k
    show (fnd n first k ++ sortT _ _).length ≤ _
    rw [List.length_append, sortT_len, Nat.pow_succ 5 (k + 1)]
    omega
theorem mem_fnd {n : Nat} {first : List Int} (hf : ∀ x ∈ first, 0 ≤ x ∧ x < n) : ∀ (k : Nat) (r : List Int), r ∈ fnd n first k ↔ Row n r ∧ 1 ≤ r.length ∧ r.length ≤ k ∧ ∃ x, r.head? = some x ∧ x ∈ first
  | 0, r => by
    constructor
    · intro h; cases h
    · rintro ⟨_, h1, h2, _⟩; omega
  | k + 1, r => by
    show r ∈ fnd n first k ++ sortT _ _ ↔ _
    rw [List.mem_append, sortT_mem, mem_fnd hf k, mem_lev hf k]
    constructor
    · rintro (⟨a, b, c, d⟩ | ⟨a, b, d⟩)
      · exact ⟨a, b, by omega, d⟩
      · exact ⟨a, by omega, by omega, d⟩
    · rintro ⟨a, b, c, d⟩
      by_cases q : r.length ≤ k
      · exact .inl ⟨a, b, q, d⟩
      · exact .inr ⟨a, by omega, d⟩
theorem pow_small {k : Nat} (h : k ≤ 5) : 5 ^ (k + 1) ≤ 15625 := Nat.le_trans (Nat.pow_le_pow_right (by decide) (show k + 1 ≤ 6 by omega)) (by decide)
theorem rows_step {n : Nat} (hn : n ≤ 5) {first : List Int} (hf : first.length ≤ n) {k : Nat} (hk : k < n) (x : Int) : s__law_rows_1 n (fnd n first k, lev n first k) x = .ok (fnd n first (k + 1), lev n first (k + 1)) := by
  have p1 := pow_small (show k ≤ 5 by omega)
  have l1 := fnd_len hn hf k
  have l2 := lev_len hn hf k
  have l3 := lev_len hn hf (k + 1)
  have p2 : 5 ^ (k + 1 + 1) ≤ 15625 := Nat.le_trans (Nat.pow_le_pow_right (by decide) (show k + 1 + 1 ≤ 6 by omega)) (by decide)
  have hrg : rngR (n : Int) = .ok (rngI 0 n) := by rw [rngR_ok (by omega)]; rfl
  unfold s__law_rows_1
  have hc : catR (fnd n first k) (sortT (ltL ltI) (lev n first k)) = .ok (fnd n first (k + 1)) := catR_ok (by rw [sortT_len]; omega)
  simp only [Res.bind_ok, sortER_L, hc, hrg]
  rw [mapR_ok (g := ext n)]
  · rw [Res.bind_ok, sumLR_ok]
    · simp only [Res.bind_ok, List.nil_append]; rfl
    · have : (((lev n first k).map (ext n)).map List.length).sum = (lev n first (k + 1)).length := by
        show _ = (((lev n first k).map (ext n)).flatten).length
        rw [List.length_flatten]
      rw [this]; simp only [List.length_nil]; omega
  · intro r hr
    unfold ext
    rw [compR_ok (q := fun y => !decide (y ∈ r)) (g := fun y => r ++ [y]) (fun y _ => rfl) fun y hy _ => ?_]
    rw [catR_ok]
    have hl : ∀ (k : Nat) (r : List Int), r ∈ lev n first k → r.length = k + 1 := by
      intro k
      induction k with
      | zero => intro r hr; obtain ⟨x, _, rfl⟩ := List.mem_map.mp hr; rfl
      | succ k ih =>
        intro r hr
        have hr : r ∈ ((lev n first k).map (ext n)).flatten := hr
        simp only [List.mem_flatten, List.mem_map] at hr
        obtain ⟨_, ⟨s, hs, rfl⟩, hr⟩ := hr
        obtain ⟨y, _, rfl⟩ := List.mem_map.mp hr
        simp [ih s hs]
    have := hl k r hr
    simp only [List.length_cons, List.length_nil]
    omega
theorem rows_ok {n : Nat} (hn : n ≤ 5) {first : List Int} (hf : first.length ≤ n) : s__law_rows n first = .ok (fnd n first n) := by
  have hrg : rngR (n : Int) = .ok (rngI 0 n) := by rw [rngR_ok (by omega)]; rfl
  unfold s__law_rows
  simp only [Res.bind_ok, hrg]
  obtain ⟨a', e, h⟩ := foldR_inv (step := s__law_rows_1 n) (fun rem a => ∃ k, k + rem.length = n ∧ a = (fnd n first k, lev n first k)) (rngI 0 n) (([] : List (List Int)), first.map fun x => [x]) ⟨0, by rw [rngI_len]; omega, rfl⟩ (by
    rintro x ys a _ ⟨k, hk, rfl⟩
    rw [List.length_cons] at hk
    exact ⟨_, rows_step hn hf (by omega) x, k + 1, by omega, rfl⟩)
  obtain ⟨k, hk, rfl⟩ := h
  have : k = n := by simpa using hk
  subst this
  rw [e]; rfl
/-! ### the greatest payments -/
section
variable {types : List (List Int)} {chosen : List Int} {n e : Nat}
/-- each is what a walk from the first one costs -/
def Wk (n : Nat) (lk : Int → Int → Int) (s : List Int) : Prop := ∀ b : Int, 0 ≤ b → b < n → ∃ r : List Int, (∀ x ∈ 0 :: (r ++ [b]), 0 ≤ x ∧ x < n) ∧ pf s b = pw lk (0 :: (r ++ [b]))
theorem pf_set {s : List Int} {a b : Int} {y : Int} (ha : 0 ≤ a ∧ a < s.length) (hb : 0 ≤ b) : pf (s.set a.toNat y) b = if b = a then y else pf s b := by
  unfold pf
  rw [List.getD_eq_getElem?_getD, List.getD_eq_getElem?_getD, List.getElem?_set]
  by_cases h : b = a
  · subst h
    rw [if_pos rfl, if_pos rfl, if_pos (by omega)]; rfl
  · rw [if_neg (by omega), if_neg h]
theorem relax_ok (R : Rule types chosen n e) {s : List Int} (hl : s.length = n) {a b : Int} (ha : 0 ≤ a ∧ a < n) (hb : 0 ≤ b ∧ b < n) : s_greatest_payments_1 types chosen a s b = .ok (s.set b.toNat (min (pf s b) (pf s a - lkF types chosen b a))) := by
  unfold s_greatest_payments_1
  simp only [Res.bind_ok, pf_at hl ha, pf_at hl hb, likes_ok R hb ha]
  rw [putR_ok hb.1 (by omega)]; rfl
/-- one turn over all, that began with s0 -/
def Inv1 (n : Nat) (lk : Int → Int → Int) (s0 s : List Int) (done : Int → Int → Prop) : Prop :=
  s.length = n ∧ Wk n lk s ∧ (∀ b : Int, 0 ≤ b → b < n → pf s b ≤ pf s0 b) ∧ ∀ a b : Int, 0 ≤ a → a < n → 0 ≤ b → b < n → done a b → pf s b ≤ pf s0 a - lk b a
theorem relax_inv (R : Rule types chosen n e) {s0 s : List Int} {done : Int → Int → Prop} {a b : Int} (ha : 0 ≤ a ∧ a < n) (hb : 0 ≤ b ∧ b < n) (h : Inv1 n (lkF types chosen) s0 s done) : ∃ s', s_greatest_payments_1 types chosen a s b = .ok s' ∧ Inv1 n (lkF types chosen) s0 s' fun x y => done x y ∨ (x = a ∧ y = b) := by
  obtain ⟨hl, hw, hm, hd⟩ := h
  refine ⟨_, relax_ok R hl ha hb, by rw [List.length_set]; exact hl, fun c c0 c1 => ?_, fun c c0 c1 => ?_, fun x y x0 x1 y0 y1 hxy => ?_⟩
  · rw [pf_set ⟨hb.1, by omega⟩ c0]
    by_cases q : c = b
    · rw [if_pos q]
      by_cases z : pf s b ≤ pf s a - lkF types chosen b a
      · rw [Int.min_eq_left z, ← q]; exact hw c c0 c1
      · rw [Int.min_eq_right (by omega)]
        obtain ⟨r, h1, h2⟩ := hw a ha.1 ha.2
        refine ⟨r ++ [a], fun x hx => ?_, ?_⟩
        · rw [q] at hx
          have hx : x ∈ 0 :: (r ++ [a]) ∨ x = b := by
            simp only [List.mem_cons, List.mem_append, List.not_mem_nil, or_false] at hx ⊢
            rcases hx with h | (h | h) | h <;> simp [h]
          rcases hx with h | h
          · exact h1 x h
          · rw [h]; exact hb
        · have e1 : 0 :: (r ++ [a] ++ [c]) = (0 :: r) ++ a :: [c] := by simp
          rw [e1, pw_app, h2, q]
          simp only [pw, List.cons_append]
          omega
    · rw [if_neg q]; exact hw c c0 c1
  · rw [pf_set ⟨hb.1, by omega⟩ c0]
    have := hm c c0 c1
    by_cases q : c = b
    · rw [if_pos q, ← q]; omega
    · rw [if_neg q]; exact this
  · rw [pf_set ⟨hb.1, by omega⟩ y0]
    rcases hxy with hxy | ⟨rfl, rfl⟩
    · have := hd x y x0 x1 y0 y1 hxy
      by_cases q : y = b
      · rw [if_pos q, ← q]; omega
      · rw [if_neg q]; exact this
    · rw [if_pos rfl]
      have := hm x x0 x1
      omega
theorem turn_ok (R : Rule types chosen n e) {s0 : List Int} (hl : s0.length = n) (hw : Wk n (lkF types chosen) s0) (x : Int) : ∃ s', s_greatest_payments_3 types chosen n s0 x = .ok s' ∧ Inv1 n (lkF types chosen) s0 s' fun _ _ => True := by
  have hrg : rngR (n : Int) = .ok (rngI 0 n) := by rw [rngR_ok (by have := R.n6; omega)]; rfl
  unfold s_greatest_payments_3
  simp only [Res.bind_ok, hrg]
  obtain ⟨s', e1, h1⟩ := foldR_inv (step := s_greatest_payments_2 types chosen n) (fun rem s => Inv1 n (lkF types chosen) s0 s fun a _ => a ∉ rem) (rngI 0 n) s0 ⟨hl, hw, fun _ _ _ => Int.le_refl _, fun a b a0 a1 b0 b1 z => absurd (mem_n.mpr ⟨a0, a1⟩) z⟩ (by
    intro a ys s ha hi
    have ha := mem_n.mp ha
    unfold s_greatest_payments_2
    simp only [Res.bind_ok, hrg]
    obtain ⟨s', e2, h2⟩ := foldR_inv (step := s_greatest_payments_1 types chosen a) (fun rem s => Inv1 n (lkF types chosen) s0 s fun x y => x ∉ a :: ys ∨ (x = a ∧ y ∉ rem)) (rngI 0 n) s ⟨hi.1, hi.2.1, hi.2.2.1, fun x y x0 x1 y0 y1 z => by
      rcases z with z | ⟨_, z⟩
      · exact hi.2.2.2 x y x0 x1 y0 y1 z
      · exact absurd (mem_n.mpr ⟨y0, y1⟩) z⟩ (by
      intro b zs s hb hi2
      obtain ⟨s', e3, h3⟩ := relax_inv R ha (mem_n.mp hb) hi2
      refine ⟨s', e3, h3.1, h3.2.1, h3.2.2.1, fun x y x0 x1 y0 y1 z => h3.2.2.2 x y x0 x1 y0 y1 ?_⟩
      rcases z with z | ⟨rfl, z⟩
      · exact .inl (.inl z)
      · by_cases q : y = b
        · exact .inr ⟨rfl, q⟩
        · refine .inl (.inr ⟨rfl, fun m => ?_⟩)
          rcases List.mem_cons.mp m with m | m
          · exact q m
          · exact z m)
    refine ⟨s', by rw [e2]; rfl, h2.1, h2.2.1, h2.2.2.1, fun x y x0 x1 y0 y1 z => h2.2.2.2 x y x0 x1 y0 y1 ?_⟩
    by_cases q : x = a
    · exact .inr ⟨q, by simp⟩
    · refine .inl fun m => ?_
      rcases List.mem_cons.mp m with m | m
      · exact q m
      · exact z m)
  exact ⟨s', by rw [e1]; rfl, h1.1, h1.2.1, h1.2.2.1, fun x y x0 x1 y0 y1 _ => h1.2.2.2 x y x0 x1 y0 y1 (by simp)⟩
/-- no more than walks of so many steps -/
def Up (n : Nat) (lk : Int → Int → Int) (k : Nat) (s : List Int) : Prop := ∀ (r : List Int) (b : Int), (∀ x ∈ 0 :: (r ++ [b]), 0 ≤ x ∧ x < n) → r.length ≤ k → pf s b ≤ pw lk (0 :: (r ++ [b]))
theorem up_next {lk : Int → Int → Int} {k : Nat} {s0 s : List Int} (h : Up n lk k s0) (hi : Inv1 n lk s0 s fun _ _ => True) : Up n lk (k + 1) s := by
  intro r b hr hk
  have hb := hr b (by simp)
  by_cases q : r.length ≤ k
  · have := h r b hr q
    have := hi.2.2.1 b hb.1 hb.2
    omega
  · obtain ⟨r', a, rfl⟩ : ∃ r' a, r = r' ++ [a] := ⟨r.dropLast, r.getLast (by intro e; rw [e] at q; simp at q), (List.dropLast_concat_getLast _).symm⟩
    have ha := hr a (by simp)
    have h1 := h r' a (fun x hx => hr x (by
      simp only [List.mem_cons, List.mem_append, List.not_mem_nil, or_false] at hx ⊢
      rcases hx with h | h | h <;> simp [h])) (by simp at hk; omega)
    have h2 := hi.2.2.2 a b ha.1 ha.2 hb.1 hb.2 trivial
    have e1 : 0 :: (r' ++ [a] ++ [b]) = (0 :: r') ++ a :: [b] := by simp
    rw [e1, pw_app]
    simp only [pw, List.cons_append]
    omega
/-- the course of the greatest payments -/
theorem course_ok (R : Rule types chosen n e) : ∃ s, s.length = n ∧ Wk n (lkF types chosen) s ∧ Up n (lkF types chosen) n s ∧ s_greatest_payments types chosen = (s_check_rule types chosen).bind fun _ => .ok (if keepB n (lkF types chosen) (pf s) = true ∧ pf s 0 = 0 then some s else none) := by
  have hrg : rngR (n : Int) = .ok (rngI 0 n) := by rw [rngR_ok (by have := R.n6; omega)]; rfl
  have hn1 := R.n1
  have h0 : ∃ s0 : List Int, compR (fun _ => Res.ok true) (fun k : Int => (s_likes_more types chosen k 0).bind fun t => Res.ok (-t)) (rngI 0 n) = .ok s0 ∧ s0.length = n ∧ ∀ b : Int, 0 ≤ b → b < n → pf s0 b = -lkF types chosen b 0 := by
    refine ⟨_, mapR_ok (g := fun k : Int => -lkF types chosen k 0) fun k hk => ?_, by simp [rngI_len], fun b b0 b1 => ?_⟩
    · rw [likes_ok R (mem_n.mp hk) ⟨by omega, by omega⟩]; rfl
    · unfold pf
      rw [rngI_0, List.map_map, List.getD_eq_getElem?_getD, List.getElem?_map, List.getElem?_range (by omega)]
      simp only [Option.map_some, Option.getD_some, Function.comp_apply]
      rw [Int.toNat_of_nonneg b0]
  obtain ⟨s0, e0, l0, v0⟩ := h0
  have w0 : Wk n (lkF types chosen) s0 := fun b b0 b1 => ⟨[], fun x hx => by
    simp only [List.nil_append, List.mem_cons, List.not_mem_nil, or_false] at hx
    rcases hx with h | h <;> omega, by rw [v0 b b0 b1]; simp [pw]⟩
  have u0 : Up n (lkF types chosen) 0 s0 := fun r b hr hk => by
    have : r = [] := List.length_eq_zero_iff.mp (by omega)
    subst this
    have hb := hr b (by simp)
    rw [v0 b hb.1 hb.2]; simp [pw]
  obtain ⟨s, e1, h1, h2, h3⟩ := foldR_inv (step := s_greatest_payments_3 types chosen n) (fun rem s => s.length = n ∧ Wk n (lkF types chosen) s ∧ Up n (lkF types chosen) (n - rem.length) s) (rngI 0 n) s0 ⟨l0, w0, by rw [rngI_len, Nat.sub_self]; exact u0⟩ (by
    rintro x ys s hx ⟨a1, a2, a3⟩
    obtain ⟨s', b1, b2⟩ := turn_ok R a1 a2 x
    refine ⟨s', b1, b2.1, b2.2.1, ?_⟩
    have := up_next a3 b2
    intro r b hr hk
    exact this r b hr (by rw [List.length_cons]; omega))
  refine ⟨s, h1, h2, by simpa using h3, ?_⟩
  unfold s_greatest_payments
  simp only [Res.bind_ok, R.len, hrg, e0, e1, keep_ok R h1, pf_at h1 (show 0 ≤ (0 : Int) ∧ (0 : Int) < n by omega)]
  congr 1
  funext _
  cases hk : keepB n (lkF types chosen) (pf s) with
  | false => simp
  | true =>
    by_cases q : pf s 0 = 0
    · simp [q]
    · simp [q]
end
end K42
/-! P42d: the first round of gains. -/
namespace K42
open PySem PySem.Spec PyProof.Rows L2 Pf LawC K42M
theorem nodup_le {α : Type} [DecidableEq α] : ∀ (l m : List α), l.Nodup → (∀ x ∈ l, x ∈ m) → l.length ≤ m.length
  | [], _, _, _ => Nat.zero_le _
  | a :: l, m, h, hs => by
    have h1 := List.nodup_cons.mp h
    have ha := hs a (List.mem_cons_self ..)
    have ih := nodup_le l (m.erase a) h1.2 fun x hx => by
      have hx2 := hs x (List.mem_cons_of_mem _ hx)
      exact (List.mem_erase_of_ne (fun e => h1.1 (by rw [← e]; exact hx))).mpr hx2
    have := List.length_erase_of_mem ha
    have : 0 < m.length := List.length_pos_of_mem ha
    rw [List.length_cons]
    omega
theorem row_len {n : Nat} {r : List Int} (h : Row n r) : r.length ≤ n := by
  have := nodup_le r (rngI 0 n) h.1 fun x hx => mem_n.mpr (h.2 x hx)
  rwa [rngI_len] at this
section
variable {types : List (List Int)} {chosen : List Int} {n e : Nat} {lk : Int → Int → Int}
/-- it gains -/
def Qr (lk : Int → Int → Int) (r : List Int) : Prop := 1 < r.length ∧ 0 < cyc lk r
structure First (n : Nat) (lk : Int → Int → Int) (r : List Int) : Prop where
  row : Row n r
  q : Qr lk r
  short : ∀ s, Row n s → Qr lk s → r.length ≤ s.length
  least : ∀ s, Row n s → Qr lk s → s.length = r.length → ltL ltI s r = false
theorem First.uniq {r s : List Int} (h1 : First n lk r) (h2 : First n lk s) : r = s := by
  have a := h1.short s h2.row h2.q
  have b := h2.short r h1.row h1.q
  exact so_L.tot _ _ (h2.least r h1.row h1.q (by omega)) (h1.least s h2.row h2.q (by omega))
/-- the least one in front -/
def Mrow (n : Nat) (r : List Int) : Prop := Row n r ∧ ∃ a t, r = a :: t ∧ ∀ y ∈ t, a < y
theorem least_in : ∀ r : List Int, r ≠ [] → ∃ a ∈ r, ∀ y ∈ r, a ≤ y := fun r h => by
  obtain ⟨m, _, h1, h2⟩ := minL_ex h
  exact ⟨m, h1, h2⟩
theorem rot {r : List Int} (h : Row n r) (h0 : r ≠ []) : ∃ s, Mrow n s ∧ s.length = r.length ∧ cyc lk s = cyc lk r ∧ (s = r ∨ ltL ltI s r = true) := by
  obtain ⟨a, ha, hl⟩ := least_in r h0
  obtain ⟨p, t, e⟩ := List.append_of_mem ha
  have nd := h.1
  rw [e] at nd
  have h1 := List.nodup_append.mp nd
  have h2 := List.nodup_cons.mp h1.2.1
  have hlt : ∀ y ∈ t ++ p, a < y := fun y hy => by
    have hne : y ≠ a := fun z => by
      rcases List.mem_append.mp hy with m | m
      · exact h2.1 (z ▸ m)
      · exact h1.2.2 y m a (List.mem_cons_self ..) z
    have := hl y (by
      rw [e]
      rcases List.mem_append.mp hy with m | m
      · simp [m]
      · simp [m])
    omega
  refine ⟨a :: (t ++ p), ⟨⟨?_, fun x hx => h.2 x ?_⟩, a, t ++ p, rfl, hlt⟩, ?_, ?_, ?_⟩
  · refine List.nodup_cons.mpr ⟨fun m => ?_, ?_⟩
    · have := hlt a m; omega
    · refine List.nodup_append.mpr ⟨h2.2, h1.1, fun x hx y hy z => ?_⟩
      exact h1.2.2 y hy x (List.mem_cons_of_mem _ hx) z.symm
  · rw [e]
    simp only [List.mem_cons, List.mem_append] at hx ⊢
    rcases hx with m | m | m <;> simp [m]
  · rw [e]; simp; omega
  · rw [e, cyc_rot]; rfl
  · cases p with
    | nil => left; rw [e]; simp
    | cons b p =>
      right
      rw [e]
      have hab : a < b := hlt b (by simp)
      show (if a = b then _ else ltI a b) = true
      rw [if_neg (by omega)]
      unfold ltI
      exact decide_eq_true hab
/-! ### the law's first one -/
def qB (lk : Int → Int → Int) (r : List Int) : Bool := decide (1 < r.length) && decide (0 < cyc lk r)
theorem qB_iff {r : List Int} : qB lk r = true ↔ Qr lk r := by unfold qB Qr; simp
def all_ (n : Nat) : List Int := rngI 0 n
theorem mem_fndA {k : Nat} {r : List Int} : r ∈ fnd n (rngI 0 n) k ↔ Row n r ∧ 1 ≤ r.length ∧ r.length ≤ k := by
  rw [mem_fnd (fun x hx => mem_n.mp hx)]
  constructor
  · rintro ⟨a, b, c, _⟩; exact ⟨a, b, c⟩
  · rintro ⟨a, b, c⟩
    refine ⟨a, b, c, ?_⟩
    cases r with
    | nil => simp at b
    | cons x r => exact ⟨x, rfl, mem_n.mpr (a.2 x (List.mem_cons_self ..))⟩
theorem law_first : ∀ (k : Nat) (r : List Int) (t : List (List Int)), (fnd n (rngI 0 n) k).filter (qB lk) = r :: t → First n lk r
  | 0, r, t, h => by cases h
  | k + 1, r, t, h => by
    rw [show fnd n (rngI 0 n) (k + 1) = fnd n (rngI 0 n) k ++ sortT (ltL ltI) (lev n (rngI 0 n) k) from rfl, List.filter_append] at h
    cases hA : (fnd n (rngI 0 n) k).filter (qB lk) with
    | cons r' t' =>
      rw [hA, List.cons_append] at h
      have := law_first k r' t' hA
      cases h
      exact this
    | nil =>
      rw [hA, List.nil_append] at h
      have no : ∀ s, Row n s → Qr lk s → k < s.length := fun s hs hq => by
        refine Nat.lt_of_not_le fun z => ?_
        have : s ∈ (fnd n (rngI 0 n) k).filter (qB lk) := List.mem_filter.mpr ⟨mem_fndA.mpr ⟨hs, by have := hq.1; omega, z⟩, qB_iff.mpr hq⟩
        rw [hA] at this; cases this
      have hr : r ∈ (sortT (ltL ltI) (lev n (rngI 0 n) k)).filter (qB lk) := by rw [h]; exact List.mem_cons_self ..
      obtain ⟨r1, r2⟩ := List.mem_filter.mp hr
      have r3 := (mem_lev (fun x hx => mem_n.mp hx) k r).mp (sortT_mem.mp r1)
      have hp := (sortT_sorted so_L (lev n (rngI 0 n) k)).sublist (List.filter_sublist (p := qB lk))
      rw [h] at hp
      have hp := List.pairwise_cons.mp hp
      refine ⟨r3.1, qB_iff.mp r2, fun s hs hq => by have := no s hs hq; have := r3.2.1; omega, fun s hs hq hl => ?_⟩
      have hs2 : s ∈ lev n (rngI 0 n) k := (mem_lev (fun x hx => mem_n.mp hx) k s).mpr ⟨hs, by rw [hl]; exact r3.2.1, by
        cases s with
        | nil => have := hq.1; simp at this
        | cons x s => exact ⟨x, rfl, mem_n.mpr (hs.2 x (List.mem_cons_self ..))⟩⟩
      have hs3 : s ∈ r :: t := by rw [← h]; exact List.mem_filter.mpr ⟨sortT_mem.mpr hs2, qB_iff.mpr hq⟩
      rcases List.mem_cons.mp hs3 with rfl | m
      · exact so_L.ir _
      · exact hp.1 s m
theorem law_none (h : (fnd n (rngI 0 n) n).filter (qB lk) = []) : ∀ s, Row n s → ¬ Qr lk s := fun s hs hq => by
  have : s ∈ (fnd n (rngI 0 n) n).filter (qB lk) := List.mem_filter.mpr ⟨mem_fndA.mpr ⟨hs, by have := hq.1; omega, row_len hs⟩, qB_iff.mpr hq⟩
  rw [h] at this; cases this
/-! ### the program's -/
def lng (n : Nat) (rows : List (List Int)) : List (List Int) := rows.flatMap fun r => ((rngI (r.getD 0 0 + 1) ((n : Int) - (r.getD 0 0 + 1)).toNat).filter fun k => !decide (k ∈ r)).map fun k => r ++ [k]
theorem mem_lng {rows : List (List Int)} {k : Nat} (hk : 1 ≤ k) (h : ∀ r, r ∈ rows ↔ Mrow n r ∧ r.length = k) (r : List Int) : r ∈ lng n rows ↔ Mrow n r ∧ r.length = k + 1 := by
  unfold lng
  simp only [List.mem_flatMap, List.mem_map, List.mem_filter, mem_rngI]
  constructor
  · rintro ⟨s, hs, y, ⟨hy, hy2⟩, rfl⟩
    obtain ⟨⟨hr, a, t, rfl, hlt⟩, hl⟩ := (h s).mp hs
    have hy2 : y ∉ a :: t := by simpa using hy2
    have ha : (a :: t).getD 0 0 = a := rfl
    rw [ha] at hy
    have hra := hr.2 a (List.mem_cons_self ..)
    refine ⟨⟨⟨List.nodup_append.mpr ⟨hr.1, by simp, fun u hu v hv z => ?_⟩, fun z hz => ?_⟩, a, t ++ [y], rfl, fun z hz => ?_⟩, by simp at hl ⊢; omega⟩
    · rw [List.mem_singleton.mp hv] at z; exact hy2 (z ▸ hu)
    · rcases List.mem_append.mp hz with m | m
      · exact hr.2 z m
      · rw [List.mem_singleton.mp m]; omega
    · rcases List.mem_append.mp hz with m | m
      · exact hlt z m
      · rw [List.mem_singleton.mp m]; omega
  · rintro ⟨⟨hr, a, t, rfl, hlt⟩, hl⟩
    obtain ⟨t', y, rfl⟩ : ∃ t' y, t = t' ++ [y] := ⟨t.dropLast, t.getLast (by intro e; rw [e] at hl; simp at hl; omega), (List.dropLast_concat_getLast _).symm⟩
    have nd := hr.1
    rw [← List.cons_append] at nd
    have h1 := List.nodup_append.mp nd
    have hy := hr.2 y (by simp)
    have hay := hlt y (by simp)
    have hl2 : (a :: t').length = k := by simp at hl ⊢; omega
    refine ⟨a :: t', (h _).mpr ⟨⟨⟨h1.1, fun z hz => hr.2 z (by
      rw [← List.cons_append]; exact List.mem_append_left _ hz)⟩, a, t', rfl, fun z hz => hlt z (List.mem_append_left _ hz)⟩, hl2⟩, y, ⟨?_, ?_⟩, rfl⟩
    · show (a :: t').getD 0 0 + 1 ≤ y ∧ _
      have : (a :: t').getD 0 0 = a := rfl
      rw [this]
      omega
    · have : y ∉ a :: t' := fun z => h1.2.2 y z y (by simp) rfl
      simp only [this, decide_false, Bool.not_false]
theorem lng_len {rows : List (List Int)} (hn : n ≤ 5) (h : ∀ r ∈ rows, 0 ≤ r.getD 0 0) : (lng n rows).length ≤ rows.length * 5 := by
  unfold lng
  rw [List.length_flatMap]
  refine sum_le_mul _ 5 rows fun r hr => ?_
  rw [List.length_map]
  refine Nat.le_trans (List.length_filter_le _ _) ?_
  rw [rngI_len]
  have := h r hr
  omega
theorem longer_ok {rows : List (List Int)} {k : Nat} (hn : n ≤ 5) (hk : 1 ≤ k) (h : ∀ r, r ∈ rows ↔ Mrow n r ∧ r.length = k) (hl : rows.length ≤ 1000000) : s_longer rows n = .ok (lng n rows) := by
  unfold s_longer
  simp only [Res.bind_ok]
  have hm : ∀ r ∈ rows, 0 ≤ r.getD 0 0 ∧ r.getD 0 0 < n ∧ 0 < r.length ∧ r.length ≤ 5 := fun r hr => by
    obtain ⟨⟨a, _⟩, b⟩ := (h r).mp hr
    have := row_len a
    have h2 := a.2 _ (getD_mem 0 (show 0 < r.length by omega))
    exact ⟨h2.1, h2.2, by omega, by omega⟩
  rw [comp2R_ok (Q := fun r => rngI (r.getD 0 0 + 1) ((n : Int) - (r.getD 0 0 + 1)).toNat) (P1 := fun r k => !decide (k ∈ r)) (F := fun r k => r ++ [k]) (fun _ _ => rfl) (fun r hr => ?_) (fun _ _ _ _ => rfl) fun r hr y hy _ => ?_]
  · rw [Res.bind_ok, lenR_ok]
    · rfl
    · have := lng_len hn (rows := rows) fun r hr => (hm r hr).1
      unfold lng at this
      omega
  · have := hm r hr
    have e0 : atR r 0 = .ok (r.getD 0 0) := row_at (k := 0) this.2.2.1
    simp only [e0, Res.bind_ok]
    exact rng2R_ok (by omega) (by omega) (by omega) (by omega) (by omega)
  · have := hm r hr
    rw [lenR_ok]
    simp; omega
theorem loop_ok (R : Rule types chosen n e) : ∀ (d k : Nat) (rows : List (List Int)) (f : Nat), n + 1 = k + d → 1 ≤ k → d + 1 ≤ f → (∀ r, r ∈ rows ↔ Mrow n r ∧ r.length = k) → rows.length ≤ 5 ^ k → (∀ s, Row n s → Qr (lkF types chosen) s → k < s.length) →
    (∃ r, First n (lkF types chosen) r ∧ whileRF (fun s : List (List Int) => .ok (decide ((0 : Int) < ((s.length : Nat) : Int)))) (s_round_of_gains_1 types chosen) f rows = .ok (.ret (some r))) ∨ ((∀ s, Row n s → ¬ Qr (lkF types chosen) s) ∧ ∃ z, whileRF (fun s : List (List Int) => .ok (decide ((0 : Int) < ((s.length : Nat) : Int)))) (s_round_of_gains_1 types chosen) f rows = .ok (.nx z))
  | 0, k, rows, f + 1, hd, hk, hf, hm, hl, hno => by
    have : rows = [] := List.eq_nil_iff_forall_not_mem.mpr fun r hr => by
      obtain ⟨⟨a, _⟩, b⟩ := (hm r).mp hr
      have := row_len a
      omega
    subst this
    refine .inr ⟨fun s hs hq => ?_, _, whileRF_end rfl⟩
    have := hno s hs hq
    have := row_len hs
    omega
  | d + 1, k, rows, f + 1, hd, hk, hf, hm, hl, hno => by
    have hn := R.n6
    by_cases he : rows = []
    · subst he
      refine .inr ⟨fun s hs hq => ?_, _, whileRF_end rfl⟩
      -- a row that gains, its beginning of length k
      have hlen := hno s hs hq
      obtain ⟨s', ⟨hr, a, t, rfl, hlt⟩, h2, _, _⟩ := rot (lk := lkF types chosen) hs (by intro z; rw [z] at hlen; simp at hlen)
      have : (a :: t).take k ∈ ([] : List (List Int)) := (hm _).mpr ⟨⟨⟨hr.1.sublist (List.take_sublist _ _), fun x hx => hr.2 x (List.mem_of_mem_take hx)⟩, a, t.take (k - 1), by
        obtain ⟨j, rfl⟩ : ∃ j, k = j + 1 := ⟨k - 1, by omega⟩
        simp, fun y hy => hlt y (List.mem_of_mem_take hy)⟩, by rw [List.length_take]; omega⟩
      cases this
    · have hc : (Res.ok (decide ((0 : Int) < ((rows.length : Nat) : Int))) : Res Bool) = .ok true := by
        have : 0 < rows.length := List.length_pos_iff.mpr he
        simp; omega
      have hp : rows.length ≤ 15625 := by
        have : 5 ^ k ≤ 5 ^ 6 := Nat.pow_le_pow_right (by decide) (by omega)
        have e6 : 5 ^ 6 = 15625 := by decide
        omega
      have hlong := longer_ok hn hk hm (by omega)
      have hm' := mem_lng hk hm
      have hll : (lng n rows).length ≤ 5 ^ (k + 1) := by
        have := lng_len (n := n) hn (rows := rows) fun r hr => by
          obtain ⟨⟨a, _⟩, b⟩ := (hm r).mp hr
          exact (a.2 _ (getD_mem 0 (show 0 < r.length by omega))).1
        rw [Nat.pow_succ]; omega
      have hgood : compR (fun row : List Int => (s_sum_round types chosen row).bind fun t => Res.ok (decide (0 < t))) (fun row : List Int => Res.ok row) (lng n rows) = .ok ((lng n rows).filter fun r => decide (0 < cyc (lkF types chosen) r)) := by
        rw [compR_ok (q := fun r => decide (0 < cyc (lkF types chosen) r)) (g := fun r => r) (fun r hr => ?_) fun _ _ _ => rfl, List.map_id']
        obtain ⟨⟨a, _⟩, b⟩ := (hm' r).mp hr
        rw [sum_round_ok R a.2 (by have := row_len a; omega)]; rfl
      by_cases hg : (lng n rows).filter (fun r => decide (0 < cyc (lkF types chosen) r)) = []
      · have hs : s_round_of_gains_1 types chosen rows = .ok (.nx (lng n rows)) := by
          unfold s_round_of_gains_1
          simp only [Res.bind_ok, R.len, hlong, hgood, hg]
          rfl
        rw [whileRF_nx (c := fun s : List (List Int) => .ok (decide ((0 : Int) < ((s.length : Nat) : Int)))) hc hs]
        refine loop_ok R d (k + 1) (lng n rows) f (by omega) (by omega) (by omega) hm' hll fun s hr hq => ?_
        have h1 := hno s hr hq
        refine Nat.lt_of_le_of_ne h1 fun z => ?_
        obtain ⟨s', h2, h3, h4, _⟩ := rot (lk := lkF types chosen) hr (by intro z; rw [z] at h1; simp at h1)
        have : s' ∈ (lng n rows).filter (fun r => decide (0 < cyc (lkF types chosen) r)) := List.mem_filter.mpr ⟨(hm' s').mpr ⟨h2, by omega⟩, by rw [h4]; exact decide_eq_true hq.2⟩
        rw [hg] at this; cases this
      · have hgl : ((lng n rows).filter (fun r => decide (0 < cyc (lkF types chosen) r))).length ≤ 16777216 := by
          have h1 := List.length_filter_le (fun r => decide (0 < cyc (lkF types chosen) r)) (lng n rows)
          have : 5 ^ (k + 1) ≤ 5 ^ 7 := Nat.pow_le_pow_right (by decide) (by omega)
          have e7 : 5 ^ 7 = 78125 := by decide
          omega
        obtain ⟨m, m1, m2, m3⟩ := minER_ok so_L (eL eI) hg hgl
        have hs : s_round_of_gains_1 types chosen rows = .ok (.ret (some m)) := by
          unfold s_round_of_gains_1
          have hpos : 0 < ((lng n rows).filter (fun r => decide (0 < cyc (lkF types chosen) r))).length := List.length_pos_iff.mpr hg
          simp only [Res.bind_ok, R.len, hlong, hgood, m1]
          rw [if_pos (by simp only [decide_eq_true_eq]; omega)]
        refine .inl ⟨m, ?_, whileRF_ret (c := fun s : List (List Int) => .ok (decide ((0 : Int) < ((s.length : Nat) : Int)))) hc hs⟩
        obtain ⟨n1, n2⟩ := List.mem_filter.mp m2
        obtain ⟨⟨a, a2⟩, b⟩ := (hm' m).mp n1
        refine ⟨a, ⟨by omega, of_decide_eq_true n2⟩, fun s hr hq => by have := hno s hr hq; omega, fun s hr hq hl2 => ?_⟩
        have h1 := hno s hr hq
        obtain ⟨s', h2, h3, h4, h5⟩ := rot (lk := lkF types chosen) hr (by intro z; rw [z] at h1; simp at h1)
        have hin : s' ∈ (lng n rows).filter (fun r => decide (0 < cyc (lkF types chosen) r)) := List.mem_filter.mpr ⟨(hm' s').mpr ⟨h2, by omega⟩, by rw [h4]; exact decide_eq_true hq.2⟩
        have h6 := m3 s' hin
        rcases h5 with rfl | h5
        · exact h6
        · cases hh : ltL ltI s m with
          | false => rfl
          | true => have := so_L.tr _ _ _ h5 hh; rw [h6] at this; cases this
/-- the program's answer -/
theorem round_ok (R : Rule types chosen n e) : (∃ r, First n (lkF types chosen) r ∧ s_round_of_gains types chosen = (s_check_rule types chosen).bind fun _ => .ok (some r)) ∨ ((∀ s, Row n s → ¬ Qr (lkF types chosen) s) ∧ s_round_of_gains types chosen = (s_check_rule types chosen).bind fun _ => .ok none) := by
  have h0 : ∀ r, r ∈ (rngI 0 n).map (fun k => [k]) ↔ Mrow n r ∧ r.length = 1 := by
    intro r
    simp only [List.mem_map, mem_n]
    constructor
    · rintro ⟨x, hx, rfl⟩
      exact ⟨⟨⟨by simp, fun y hy => by rw [List.mem_singleton.mp hy]; exact hx⟩, x, [], rfl, fun y hy => by cases hy⟩, rfl⟩
    · rintro ⟨⟨a, x, t, rfl, _⟩, b⟩
      have : t = [] := List.length_eq_zero_iff.mp (by simpa using b)
      subst this
      exact ⟨x, a.2 x (by simp), rfl⟩
  have key := loop_ok R n 1 ((rngI 0 n).map fun k => [k]) 100000 (by omega) (by omega) (by have := R.n6; omega) h0 (by rw [List.length_map, rngI_len]; have := R.n6; omega) fun s _ hq => hq.1
  rcases key with ⟨r, h1, h2⟩ | ⟨h1, z, h2⟩
  · refine .inl ⟨r, h1, ?_⟩
    unfold s_round_of_gains
    simp only [Res.bind_ok, rng_n R]
    congr 1
    funext _
    rw [h2]; rfl
  · refine .inr ⟨h1, ?_⟩
    unfold s_round_of_gains
    simp only [Res.bind_ok, rng_n R]
    congr 1
    funext _
    rw [h2]; rfl
end
end K42
/-! P42e: greatest payments are least sums; what is refused. -/
namespace K42
open PySem PySem.Spec PyProof.Rows L2 Pf LawC K42M
section
variable {types : List (List Int)} {chosen : List Int} {n e : Nat}
theorem noGain (h : ∀ s, Row n s → ¬ Qr (lkF types chosen) s) : NoGain (lkF types chosen) n := fun r hr => by
  match r, hr with
  | [], _ => exact Int.le_refl _
  | [a], _ =>
    have := lk_self (types := types) (chosen := chosen) a
    show pth _ [a, a] ≤ 0
    simp only [pth]; omega
  | a :: b :: r, hr =>
    refine Int.not_lt.mp fun z => h _ hr ⟨by simp, z⟩
theorem walk_le (hg : NoGain (lkF types chosen) n) {s : List Int} (hu : Up n (lkF types chosen) n s) (r : List Int) (b : Int) (hr : ∀ x ∈ 0 :: (r ++ [b]), 0 ≤ x ∧ x < n) : pf s b ≤ pw (lkF types chosen) (0 :: (r ++ [b])) := by
  obtain ⟨r', h1, h2, h3, h4, h5⟩ := to_row hg (0 :: (r ++ [b])).length _ (Nat.le_refl _) (by simp) hr
  have hl := row_len h1
  have h3 : r'.head? = some 0 := by rw [h3]; rfl
  have h4 : r'.getLast? = some b := by rw [h4, ← List.cons_append, List.getLast?_append]; simp
  match r', h3, h4, h5 with
  | [x], h3, h4, h5 =>
    have hx : x = 0 := by simpa using h3
    have hb : x = b := by simpa using h4
    subst hx
    subst hb
    have := hu [] 0 (fun y hy => hr y (by
      simp only [List.nil_append, List.mem_cons, List.not_mem_nil, or_false] at hy
      rcases hy with h | h <;> simp [h])) (by simp)
    have z := lk_self (types := types) (chosen := chosen) 0
    simp only [pw, List.nil_append] at this h5
    omega
  | x :: y :: t, h3, h4, h5 =>
    have hx : x = 0 := by simpa using h3
    obtain ⟨q, z, hq⟩ : ∃ q z, y :: t = q ++ [z] := ⟨(y :: t).dropLast, (y :: t).getLast (by simp), (List.dropLast_concat_getLast (by simp)).symm⟩
    have hz : z = b := by
      have : (x :: (q ++ [z])).getLast? = some b := by rw [← hq]; exact h4
      rw [← List.cons_append, List.getLast?_append] at this
      simpa using this
    subst hx hz
    rw [hq] at h5 hl h1
    have := hu q z (fun w hw => h1.2 w hw) (by simp at hl; omega)
    omega
theorem told_yes (R : Rule types chosen n e) (h : ∀ s, Row n s → ¬ Qr (lkF types chosen) s) {s : List Int} (hw : Wk n (lkF types chosen) s) (hu : Up n (lkF types chosen) n s) : Keep (lkF types chosen) n (pf s) ∧ pf s 0 = 0 := by
  have hg := noGain h
  have n1 := R.n1
  refine ⟨fun a b a0 a1 b0 b1 => ?_, ?_⟩
  · obtain ⟨r, h1, h2⟩ := hw b b0 b1
    have := walk_le hg hu (r ++ [b]) a fun x hx => by
      have hx : x ∈ 0 :: (r ++ [b]) ∨ x = a := by
        simp only [List.mem_cons, List.mem_append, List.not_mem_nil, or_false] at hx ⊢
        rcases hx with h | (h | h) | h <;> simp [h]
      rcases hx with h | h
      · exact h1 x h
      · rw [h]; exact ⟨a0, a1⟩
    have e1 : 0 :: (r ++ [b] ++ [a]) = (0 :: r) ++ b :: [a] := by simp
    rw [e1, pw_app] at this
    simp only [pw, List.cons_append] at this
    omega
  · have h0 : 0 ≤ (0 : Int) ∧ (0 : Int) < n := by omega
    have a1 := hu [] 0 (fun y hy => by
      simp only [List.nil_append, List.mem_cons, List.not_mem_nil, or_false] at hy
      rcases hy with h | h <;> omega) (by simp)
    have z := lk_self (types := types) (chosen := chosen) 0
    simp only [pw, List.nil_append] at a1
    obtain ⟨r, h1, h2⟩ := hw 0 h0.1 h0.2
    -- a closed walk costs something
    obtain ⟨r', g1, g2, g3, g4, g5⟩ := to_row hg (0 :: (r ++ [0])).length _ (Nat.le_refl _) (by simp) h1
    have g3 : r'.head? = some 0 := by rw [g3]; rfl
    have g4 : r'.getLast? = some 0 := by rw [g4, ← List.cons_append, List.getLast?_append]; simp
    match r', g3, g4, g5, g1 with
    | [x], _, _, g5, _ => simp only [pw] at g5; omega
    | x :: y :: t, g3, g4, _, g1 =>
      have hx : x = 0 := by simpa using g3
      have hn := List.nodup_cons.mp g1.1
      have : x ∈ y :: t := by
        have hh : (x :: y :: t).getLast? = (y :: t).getLast? := by simp [List.getLast?_cons]
        rw [hh] at g4
        rw [hx]
        exact List.mem_of_getLast? g4
      exact absurd this hn.1
theorem told_no {r : List Int} (hr : Row n r) (hq : Qr (lkF types chosen) r) (p : Int → Int) : ¬ Keep (lkF types chosen) n p := fun hk => by
  have := keep_cyc hk r hr.2
  have := hq.2
  omega
/-! ### the law's least sums -/
theorem last_at {r : List Int} {b : Int} (h : r.getLast? = some b) : atR r (-1) = .ok b := by
  have hl : 0 < r.length := by
    cases r with
    | nil => simp at h
    | cons => simp
  rw [atR_last hl]
  congr 1
  rw [List.getLast?_eq_getElem?, List.getElem?_eq_getElem (by omega)] at h
  exact Option.some.inj h
theorem mem_fnd0 (R : Rule types chosen n e) {r : List Int} : r ∈ fnd n [0] n ↔ Row n r ∧ r.head? = some 0 := by
  have n1 := R.n1
  rw [mem_fnd (fun x hx => by rw [List.mem_singleton.mp hx]; omega)]
  constructor
  · rintro ⟨a, b, c, x, d, f⟩
    rw [List.mem_singleton.mp f] at d
    exact ⟨a, d⟩
  · rintro ⟨a, d⟩
    refine ⟨a, ?_, row_len a, 0, d, List.mem_singleton.mpr rfl⟩
    cases r with
    | nil => simp at d
    | cons => simp
theorem least_ok (R : Rule types chosen n e) (h : ∀ s, Row n s → ¬ Qr (lkF types chosen) s) {s : List Int} (hl : s.length = n) (hw : Wk n (lkF types chosen) s) (hu : Up n (lkF types chosen) n s) : s__law_greatest types chosen = .ok s := by
  have hg := noGain h
  have n1 := R.n1
  have n6 := R.n6
  have hz := (told_yes R h hw hu).2
  have hrows : s__law_rows ((types.length : Nat) : Int) [0] = .ok (fnd n [0] n) := by rw [R.len]; exact rows_ok n6 (by simp; omega)
  unfold s__law_greatest
  simp only [Res.bind_ok, R.len, repR_1 (show n < 16777216 by omega)]
  rw [rng2R_ok (by omega) (by omega) (by omega) (by omega) (by omega), Res.bind_ok]
  have key := foldR_inv (step := s__law_greatest_1 types chosen) (fun rem st => st.length = n ∧ ∀ b : Int, 0 ≤ b → b < n → b ∉ rem → pf st b = pf s b) (rngI 1 ((n : Int) - 1).toNat) (List.replicate n 0) ⟨by simp, fun b b0 b1 hb => by
    have : b = 0 := by
      by_cases q : b = 0
      · exact q
      · exact absurd (mem_rngI.mpr ⟨by omega, by omega⟩) hb
    subst this
    rw [hz]
    unfold pf
    rw [List.getD_eq_getElem?_getD, List.getElem?_replicate, if_pos (by omega)]; rfl⟩ (by
    rintro x ys st hx ⟨a1, a2⟩
    have hx := mem_rngI.mp hx
    have hx1 : 0 ≤ x ∧ x < n := by omega
    unfold s__law_greatest_1
    simp only [Res.bind_ok, hrows]
    have hc : compR (fun row : List Int => (atR row (-1)).bind fun t => Res.ok (decide (t = x))) (fun row : List Int => ((rng2R 1 ((row.length : Nat) : Int)).bind fun t => compR (fun _ => Res.ok true) (fun t : Int => ((atR row t).bind fun a => (atR row (t - 1)).bind fun b => s__law_more types chosen a b).bind fun z => Res.ok (-z)) t).bind fun s => Res.ok s.sum) (fnd n [0] n) = .ok (((fnd n [0] n).filter fun r => decide (r.getLast? = some x)).map (pw (lkF types chosen))) := by
      refine compR_ok (fun r hr => ?_) fun r hr _ => ?_
      · obtain ⟨b1, b2⟩ := (mem_fnd0 R).mp hr
        obtain ⟨b, hb⟩ : ∃ b, r.getLast? = some b := by
          cases r with
          | nil => simp at b2
          | cons y t => exact ⟨_, List.getLast?_eq_some_getLast (by simp)⟩
        rw [last_at hb, Res.bind_ok, hb]
        simp
      · obtain ⟨b1, b2⟩ := (mem_fnd0 R).mp hr
        rw [Res.assoc]
        refine lpw_ok R b1.2 (by have := row_len b1; omega) (by
          intro z; rw [z] at b2; simp at b2)
    rw [hc, Res.bind_ok]
    -- the least of them
    have hne : ((fnd n [0] n).filter fun r => decide (r.getLast? = some x)).map (pw (lkF types chosen)) ≠ [] := by
      have : [0, x] ∈ (fnd n [0] n).filter fun r => decide (r.getLast? = some x) := by
        refine List.mem_filter.mpr ⟨(mem_fnd0 R).mpr ⟨⟨?_, fun y hy => ?_⟩, rfl⟩, by simp⟩
        · refine List.nodup_cons.mpr ⟨fun z => ?_, by simp⟩
          have := List.mem_singleton.mp z; omega
        · simp only [List.mem_cons, List.not_mem_nil, or_false] at hy
          omega
      intro z
      have := List.mem_map_of_mem (f := pw (lkF types chosen)) this
      rw [z] at this; cases this
    obtain ⟨m, m1, m2, m3⟩ := minL_ex hne
    have hm : m = pf s x := by
      obtain ⟨r, r1, r2⟩ := List.mem_map.mp m2
      obtain ⟨r3, r4⟩ := List.mem_filter.mp r1
      obtain ⟨r5, r6⟩ := (mem_fnd0 R).mp r3
      have r4 : r.getLast? = some x := by simpa using r4
      have up : pf s x ≤ m := by
        match r, r2, r4, r5, r6 with
        | [y], r2, r4, r5, r6 =>
          have q1 : y = x := by simpa using r4
          have q2 : y = 0 := by simpa using r6
          omega
        | y :: z :: t, r2, r4, r5, r6 =>
          obtain ⟨q, w, hq⟩ : ∃ q w, z :: t = q ++ [w] := ⟨(z :: t).dropLast, (z :: t).getLast (by simp), (List.dropLast_concat_getLast (by simp)).symm⟩
          have hy : y = 0 := by simpa using r6
          have hw : w = x := by
            have : (y :: (q ++ [w])).getLast? = some x := by rw [← hq]; exact r4
            rw [← List.cons_append, List.getLast?_append] at this
            simpa using this
          subst hy hw
          rw [hq] at r2 r5
          rw [← r2]
          exact walk_le hg hu q w fun v hv => r5.2 v hv
      have lo : m ≤ pf s x := by
        obtain ⟨r, g1, g2⟩ := hw x hx1.1 hx1.2
        obtain ⟨r', h1, h2, h3, h4, h5⟩ := to_row hg (0 :: (r ++ [x])).length _ (Nat.le_refl _) (by simp) g1
        have := m3 (pw (lkF types chosen) r') (List.mem_map_of_mem (List.mem_filter.mpr ⟨(mem_fnd0 R).mpr ⟨h1, by rw [h3]; rfl⟩, by
          rw [h4, ← List.cons_append, List.getLast?_append]; simp⟩))
        omega
      omega
    refine ⟨st.set x.toNat m, ?_, by rw [List.length_set]; exact a1, fun b b0 b1 hb => ?_⟩
    · rw [m1]
      simp only [ofO_some, Res.bind_ok]
      rw [putR_ok hx1.1 (by omega)]; rfl
    · rw [pf_set ⟨hx1.1, by omega⟩ b0]
      by_cases q : b = x
      · rw [if_pos q, q]; exact hm
      · rw [if_neg q]
        exact a2 b b0 b1 fun z => (List.mem_cons.mp z).elim q hb)
  obtain ⟨st, k1, k2, k3⟩ := key
  rw [k1, Res.bind_ok]
  congr 1
  refine List.ext_getElem (by omega) fun i i1 i2 => ?_
  have := k3 (i : Int) (by omega) (by omega) (by simp)
  unfold pf at this
  rw [Int.toNat_natCast, List.getD_eq_getElem?_getD, List.getD_eq_getElem?_getD, List.getElem?_eq_getElem i1, List.getElem?_eq_getElem i2] at this
  exact this
end
end K42
/-! P42f: what is refused. -/
namespace K42
open PySem PySem.Spec PyProof.Rows L2 Pf LawC K42M
theorem enum_len {α : Type} (xs : List α) : (enumI xs).length = xs.length := by simp [enumI]
theorem enum_at {α : Type} (xs : List α) {i : Nat} (h : i < (enumI xs).length) : (enumI xs)[i] = ((i : Int), xs[i]'(by rw [enum_len] at h; exact h)) := by
  simp [enumI]
theorem foldR_exc_at {α : Type} {step : Unit → α → Res Unit} {xs : List α} {c : Str} {k : Int} (i : Nat) (hi : i < xs.length) (h1 : ∀ j (hj : j < i), step () (xs[j]'(by omega)) = .ok ()) (h2 : step () xs[i] = .exc c k) : foldR step () xs = .exc c k := by
  have e : xs = xs.take i ++ xs[i] :: xs.drop (i + 1) := by rw [← List.drop_eq_getElem_cons hi, List.take_append_drop]
  rw [e]
  refine foldR_exc (fun y hy => ?_) h2
  obtain ⟨j, hj, rfl⟩ := List.getElem_of_mem hy
  rw [List.length_take] at hj
  rw [List.getElem_take]
  exact h1 j (by omega)
theorem foldR_ok_at {α : Type} {step : Unit → α → Res Unit} {xs : List α} (h : ∀ j (hj : j < xs.length), step () xs[j] = .ok ()) : foldR step () xs = .ok () := foldR_all fun x hx => by
  obtain ⟨j, hj, rfl⟩ := List.getElem_of_mem hx
  exact h j hj
def GoodR (w : Nat) (r : List Int) : Prop := 1 ≤ r.length ∧ r.length ≤ 64 ∧ r.length = w ∧ ∀ x ∈ r, 0 ≤ x ∧ x ≤ 1000000
theorem row_good {types : List (List Int)} {r0 : List Int} (h0 : atR types 0 = .ok r0) (k : Int) {r : List Int} (h : GoodR r0.length r) : s_check_rule_2 types () (k, r) = .ok () := by
  obtain ⟨a, b, c, d⟩ := h
  unfold s_check_rule_2
  have e1 : (!(decide ((1 : Int) ≤ ((r.length : Nat) : Int)) && decide (((r.length : Nat) : Int) ≤ 64))) = false := by simp; omega
  have e2 : (!decide (((r.length : Nat) : Int) = ((r0.length : Nat) : Int))) = false := by simp; omega
  have e3 : (!(List.all (List.map (fun w : Int => decide (0 ≤ w) && decide (w ≤ 1000000)) r) id)) = false := by
    simp only [List.all_map, Bool.not_eq_false', List.all_eq_true, Function.comp_apply, id_eq]
    intro x hx
    have := d x hx
    simp; omega
  simp only [Res.bind_ok, e1, h0, e2, e3, Bool.false_eq_true, if_false]
theorem row_bad {types : List (List Int)} {r0 : List Int} (h0 : atR types 0 = .ok r0) (k : Int) {r : List Int} (h : ¬ GoodR r0.length r) : s_check_rule_2 types () (k, r) = .exc "BadType" k := by
  unfold s_check_rule_2
  by_cases c1 : 1 ≤ r.length ∧ r.length ≤ 64
  · have e1 : (!(decide ((1 : Int) ≤ ((r.length : Nat) : Int)) && decide (((r.length : Nat) : Int) ≤ 64))) = false := by simp; omega
    by_cases c2 : r.length = r0.length
    · have e2 : (!decide (((r.length : Nat) : Int) = ((r0.length : Nat) : Int))) = false := by simp; omega
      have e3 : (!(List.all (List.map (fun w : Int => decide (0 ≤ w) && decide (w ≤ 1000000)) r) id)) = true := by
        simp only [List.all_map, Bool.not_eq_true', List.all_eq_false, Function.comp_apply, id_eq]
        refine Classical.byContradiction fun z => h ⟨c1.1, c1.2, c2, fun x hx => ?_⟩
        refine Classical.byContradiction fun y => z ⟨x, hx, ?_⟩
        simp; omega
      simp only [Res.bind_ok, e1, h0, e2, e3, Bool.false_eq_true, if_false, if_true]
    · have e2 : (!decide (((r.length : Nat) : Int) = ((r0.length : Nat) : Int))) = true := by simp; omega
      simp only [Res.bind_ok, e1, h0, e2, Bool.false_eq_true, if_false, if_true]
  · have e1 : (!(decide ((1 : Int) ≤ ((r.length : Nat) : Int)) && decide (((r.length : Nat) : Int) ≤ 64))) = true := by simp; omega
    simp only [Res.bind_ok, e1, if_true]
theorem cnt_ok {types : List (List Int)} (h : 1 ≤ types.length ∧ types.length ≤ 6) : (!(decide ((1 : Int) ≤ ((types.length : Nat) : Int)) && decide (((types.length : Nat) : Int) ≤ 6))) = false := by simp; omega
/-- the first row that is none -/
theorem types_exc {types : List (List Int)} {chosen : List Int} {r0 : List Int} (hl : 1 ≤ types.length ∧ types.length ≤ 6) (h0 : atR types 0 = .ok r0) (i : Nat) (hi : i < types.length) (h1 : ∀ j (hj : j < i), GoodR r0.length (types[j]'(by omega))) (h2 : ¬ GoodR r0.length types[i]) : s_check_rule types chosen = .exc "BadType" i := by
  unfold s_check_rule
  simp only [Res.bind_ok, cnt_ok hl, Bool.false_eq_true, if_false]
  rw [foldR_exc_at (c := "BadType") (k := (i : Int)) i (by rw [enum_len]; exact hi) (fun j hj => by rw [enum_at]; exact row_good h0 _ (h1 j hj)) (by rw [enum_at]; exact row_bad h0 _ h2)]
  rfl
theorem none_exc {types : List (List Int)} {chosen : List Int} (h : types.length = 0 ∨ 6 < types.length) : s_check_rule types chosen = .exc "BadType" (-1) := by
  unfold s_check_rule
  have : (!(decide ((1 : Int) ≤ ((types.length : Nat) : Int)) && decide (((types.length : Nat) : Int) ≤ 6))) = true := by simp; omega
  simp only [Res.bind_ok, this, if_true]
theorem end_good {types : List (List Int)} {r0 : List Int} (h0 : atR types 0 = .ok r0) (k : Int) {c : Int} (h : 0 ≤ c ∧ c < r0.length) : s_check_rule_1 types () (k, c) = .ok () := by
  unfold s_check_rule_1
  simp only [Res.bind_ok, h0, decide_eq_true h.1, decide_eq_true h.2, if_true, Bool.not_true, Bool.false_eq_true, if_false]
theorem end_bad {types : List (List Int)} {r0 : List Int} (h0 : atR types 0 = .ok r0) (k : Int) {c : Int} (h : ¬ (0 ≤ c ∧ c < r0.length)) : s_check_rule_1 types () (k, c) = .exc "BadEnd" k := by
  unfold s_check_rule_1
  by_cases q : 0 ≤ c
  · have : ¬ c < ((r0.length : Nat) : Int) := fun z => h ⟨q, z⟩
    simp only [Res.bind_ok, h0, decide_eq_true q, decide_eq_false this, if_true, Bool.not_false]
  · simp only [Res.bind_ok, decide_eq_false q, Bool.false_eq_true, if_false, Bool.not_false, if_true]
section
variable {types : List (List Int)} {chosen : List Int} {n e : Nat}
theorem Rule.at0 (R : Rule types chosen n e) : ∃ r0, atR types 0 = .ok r0 ∧ r0.length = e := by
  have := R.n1
  have := R.len
  have h := atR_nat (xs := types) (k := 0) (by omega)
  exact ⟨_, h, (R.row _ (List.getElem_mem _)).1⟩
theorem Rule.good (R : Rule types chosen n e) {r : List Int} (h : r ∈ types) : GoodR e r := by
  have := R.row r h
  have := R.e1
  have := R.e5
  exact ⟨by omega, by omega, by omega, (R.row r h).2⟩
theorem types_pass (R : Rule types chosen n e) : foldR (s_check_rule_2 types) () (enumI types) = .ok () := by
  obtain ⟨r0, h0, hl⟩ := R.at0
  refine foldR_ok_at fun j hj => ?_
  rw [enum_at]
  exact row_good h0 _ (by rw [hl]; exact R.good (List.getElem_mem _))
theorem check_ok (R : Rule types chosen n e) : s_check_rule types chosen = .ok () := by
  obtain ⟨r0, h0, hl⟩ := R.at0
  have l1 := R.len
  have l2 := R.lenc
  have ec := cnt_ok (types := types) ⟨by have := R.n1; omega, by have := R.n6; omega⟩
  unfold s_check_rule
  have hc : cutL chosen none (some ((types.length : Nat) : Int)) = chosen := by rw [cutL_to, List.take_of_length_le (by omega)]
  have e1 : (!decide (((chosen.length : Nat) : Int) = ((types.length : Nat) : Int))) = false := by simp; omega
  simp only [Res.bind_ok, ec, Bool.false_eq_true, if_false, types_pass R, hc, e1]
  rw [foldR_ok_at fun j hj => by
    rw [enum_at]
    exact end_good h0 _ (by have := R.ch _ (List.getElem_mem (by rw [enum_len] at hj; exact hj)); rw [hl]; exact this)]
  rfl
/-- the first end that is none -/
theorem ends_exc (R : Rule types chosen n e) (ch : List Int) (i : Nat) (hi : i < ch.length) (hin : i < n) (h1 : ∀ j (hj : j < i), 0 ≤ ch[j]'(by omega) ∧ ch[j]'(by omega) < e) (h2 : ¬ (0 ≤ ch[i] ∧ ch[i] < e)) : s_check_rule types ch = .exc "BadEnd" i := by
  obtain ⟨r0, h0, hl⟩ := R.at0
  have l1 := R.len
  have ec := cnt_ok (types := types) ⟨by have := R.n1; omega, by have := R.n6; omega⟩
  rw [l1] at ec
  unfold s_check_rule
  have hlt : i < (ch.take n).length := by rw [List.length_take]; omega
  simp only [Res.bind_ok, ec, Bool.false_eq_true, if_false, types_pass R, cutL_to, l1]
  rw [foldR_exc_at (c := "BadEnd") (k := (i : Int)) i (by rw [enum_len]; exact hlt) (fun j hj => by
    rw [enum_at]
    refine end_good h0 _ ?_
    rw [List.getElem_take, hl]; exact h1 j hj) (by
    rw [enum_at]
    refine end_bad h0 _ ?_
    rw [List.getElem_take, hl]; exact h2)]
  rfl
theorem ends_short (R : Rule types chosen n e) (ch : List Int) (hl : ch.length ≠ n) (h : ∀ c ∈ ch, 0 ≤ c ∧ c < e) : s_check_rule types ch = .exc "BadEnd" n := by
  obtain ⟨r0, h0, hr⟩ := R.at0
  have l1 := R.len
  have ec := cnt_ok (types := types) ⟨by have := R.n1; omega, by have := R.n6; omega⟩
  rw [l1] at ec
  unfold s_check_rule
  have e1 : (!decide (((ch.length : Nat) : Int) = ((n : Nat) : Int))) = true := by simp; omega
  simp only [Res.bind_ok, ec, Bool.false_eq_true, if_false, types_pass R, cutL_to, l1, e1, if_true]
  rw [foldR_ok_at fun j hj => by
    rw [enum_at]
    refine end_good h0 _ ?_
    rw [hr]
    exact h _ (List.mem_of_mem_take (List.getElem_mem (by rw [enum_len] at hj; exact hj)))]
  rfl
end
/-! ### the words of what is refused -/
abbrev HS : List (Str × (Int → Option (Str × Int))) := [(("BadType" : Str), fun (k : Int) => (some (("type" : Str), k) : (Option (Str × Int)))), (("BadEnd" : Str), fun (k : Int) => (some (("end" : Str), k) : (Option (Str × Int)))), (("BadPaid" : Str), fun (k : Int) => (some (("paid" : Str), k) : (Option (Str × Int))))]
theorem try_type (k : Int) : tryR (["BadEnd", "BadPaid", "BadType"] : List Str) HS (.exc "BadType" k : Res (Fl Unit (Option (Str × Int)))) = .ok (.ret (some ("type", k))) := rfl
theorem try_end (k : Int) : tryR (["BadEnd", "BadPaid", "BadType"] : List Str) HS (.exc "BadEnd" k : Res (Fl Unit (Option (Str × Int)))) = .ok (.ret (some ("end", k))) := rfl
theorem try_paid (k : Int) : tryR (["BadEnd", "BadPaid", "BadType"] : List Str) HS (.exc "BadPaid" k : Res (Fl Unit (Option (Str × Int)))) = .ok (.ret (some ("paid", k))) := rfl
theorem refused_exc {types : List (List Int)} {chosen told : List Int} {c nm : Str} {k : Int} (h : s_check_rule types chosen = .exc c k) (ht : tryR (["BadEnd", "BadPaid", "BadType"] : List Str) HS (.exc c k : Res (Fl Unit (Option (Str × Int)))) = .ok (.ret (some (nm, k)))) {w : Int} (hw : w ∈ rngI 0 4) : s__law_refused w types chosen told = .ok (some (nm, k)) := by
  have hw : w = 0 ∨ w = 1 ∨ w = 2 ∨ w = 3 := by have := mem_rngI.mp hw; omega
  unfold s__law_refused
  rcases hw with rfl | rfl | rfl | rfl
  · simp only [Res.bind_ok, s_round_of_gains, h, Res.bind_exc]
    exact congrArg (fun z => seqF z _ _) ht
  · simp only [Res.bind_ok, s_greatest_payments, h, Res.bind_exc]
    exact congrArg (fun z => seqF z _ _) ht
  · simp only [Res.bind_ok, s_keep_truth, h, Res.bind_exc]
    exact congrArg (fun z => seqF z _ _) ht
  · simp only [Res.bind_ok, s_gain_of_round, h, Res.bind_exc]
    exact congrArg (fun z => seqF z _ _) ht
theorem refused_paid {types : List (List Int)} {chosen : List Int} {n e : Nat} (R : Rule types chosen n e) (told : List Int) (h : told.length ≠ n) : s__law_refused 2 types chosen told = .ok (some ("paid", 0)) := by
  have e1 : (!decide (((told.length : Nat) : Int) = ((types.length : Nat) : Int))) = true := by have := R.len; simp; omega
  unfold s__law_refused
  simp only [Res.bind_ok, s_keep_truth, check_ok R, e1, if_true]
  exact congrArg (fun z => seqF z _ _) (try_paid 0)
/-! ### the same data -/
mutual
theorem eqv_self : ∀ d : PyData, PyData.canLay0 d = true → PyData.eqv d d = true
  | .none, _ => rfl
  | .bool b, _ => by simp [PyData.eqv]
  | .int i, _ => by simp [PyData.eqv]
  | .str s, _ => by simp [PyData.eqv]
  | .list xs, h => by simp only [PyData.eqv]; exact eqvAll_self xs (by simpa [PyData.canLay0] using h)
  | .tuple xs, h => by simp only [PyData.eqv]; exact eqvAll_self xs (by simpa [PyData.canLay0] using h)
  | .dict _, h => by simp [PyData.canLay0] at h
theorem eqvAll_self : ∀ xs : List PyData, PyData.canLayAll0 xs = true → PyData.eqvAll xs xs = true
  | [], _ => rfl
  | x :: xs, h => by
    have h' : x.canLay0 = true ∧ PyData.canLayAll0 xs = true := by simpa [PyData.canLayAll0] using h
    simp [PyData.eqvAll, eqv_self x h'.1, eqvAll_self xs h'.2]
end
theorem neR_self {d e : PyData} (h : d = e) (hs : SeqAt.shaped e = true) : neR d e = .ok false := by
  subst h
  unfold neR neD
  rw [if_pos ⟨hs, hs⟩, eqv_self d (SeqAt.canLay_of_shaped hs)]
  rfl
theorem eqR_self {d e : PyData} (h : d = e) (hs : SeqAt.shaped e = true) : eqR d e = .ok true := by
  subst h
  unfold eqR eqD
  rw [if_pos ⟨hs, hs⟩, eqv_self d (SeqAt.canLay_of_shaped hs)]
  rfl
end K42
/-! P42g: the turns of the law. -/
namespace K42
open PySem PySem.Spec PyProof.Rows L2 Pf LawC K42M
theorem mixE {ds : List Int} (h : Dr ds) {k many : Int} (hk : 0 ≤ k ∧ k < 1000000) (hm : 0 < many) : TyC.s__law_mix ds k many = .ok (mixF ds k many) := (mixR_ok h hk.1 hk.2 hm).1
theorem mixB {ds : List Int} (h : Dr ds) {k many : Int} (hk : 0 ≤ k ∧ k < 1000000) (hm : 0 < many) : 0 ≤ mixF ds k many ∧ mixF ds k many < many := (mixR_ok h hk.1 hk.2 hm).2
section
variable {types : List (List Int)} {chosen : List Int} {n e : Nat}
def rnds (n : Nat) (lk : Int → Int → Int) : List (List Int) := (fnd n (rngI 0 n) n).filter (qB lk)
theorem rounds_ok (R : Rule types chosen n e) : compR (fun row : List Int => if decide ((1 : Int) < ((row.length : Nat) : Int)) = true then (s__law_gain types chosen row).bind fun t => Res.ok (decide (0 < t)) else Res.ok false) (fun row : List Int => Res.ok row) (fnd n (rngI 0 n) n) = .ok (rnds n (lkF types chosen)) := by
  rw [compR_ok (q := qB (lkF types chosen)) (g := fun r => r) (fun r hr => ?_) fun _ _ _ => rfl, List.map_id']
  · rfl
  · obtain ⟨a, b, c⟩ := mem_fndA.mp hr
    unfold qB
    by_cases q : 1 < r.length
    · rw [if_pos (by simp; omega), lgain_ok R a.2 (by have := R.n6; omega), Res.bind_ok, decide_eq_true q, Bool.true_and]
    · rw [if_neg (by simp; omega), decide_eq_false q, Bool.false_and]
theorem rows_all (R : Rule types chosen n e) : s__law_rows n (rngI 0 n) = .ok (fnd n (rngI 0 n) n) := rows_ok R.n6 (by rw [rngI_len]; exact Nat.le_refl _)
theorem first_ok (R : Rule types chosen n e) : ∃ o, s_round_of_gains types chosen = .ok o ∧ ((catR ((rnds n (lkF types chosen)).map some) [none]).bind fun t => atR t 0) = .ok o := by
  have hlen : (rnds n (lkF types chosen)).length ≤ 15625 := by
    have h1 := List.length_filter_le (qB (lkF types chosen)) (fnd n (rngI 0 n) n)
    have h2 := fnd_len R.n6 (first := rngI 0 n) (by rw [rngI_len]; exact Nat.le_refl _) n
    have h3 := pow_small R.n6
    show (List.filter _ _).length ≤ _
    omega
  have hc : catR ((rnds n (lkF types chosen)).map some) [none] = .ok ((rnds n (lkF types chosen)).map some ++ [none]) := catR_ok (by simp; omega)
  rw [hc, Res.bind_ok]
  have hk := check_ok R
  cases hr : rnds n (lkF types chosen) with
  | nil =>
    have hno := law_none (lk := lkF types chosen) hr
    rcases round_ok R with ⟨r, h1, h2⟩ | ⟨_, h2⟩
    · exact absurd h1.q (hno r h1.row)
    · exact ⟨none, by rw [h2, hk]; rfl, atR_nat (k := 0) (by simp)⟩
  | cons r t =>
    have hf := law_first (lk := lkF types chosen) n r t hr
    rcases round_ok R with ⟨r', h1, h2⟩ | ⟨h1, _⟩
    · rw [hf.uniq h1]
      exact ⟨some r', by rw [h2, hk]; rfl, atR_nat (k := 0) (by simp)⟩
    · exact absurd hf.q (h1 r hf.row)
/-- what is known of the greatest payments -/
structure Told (types : List (List Int)) (chosen : List Int) (n : Nat) (s : List Int) : Prop where
  len : s.length = n
  keep : Keep (lkF types chosen) n (pf s)
  zero : pf s 0 = 0
  law : s__law_greatest types chosen = .ok s
  most : ∀ p, Keep (lkF types chosen) n p → ∀ b : Int, 0 ≤ b → b < n → p b - p 0 ≤ pf s b
theorem told_ok (R : Rule types chosen n e) : (rnds n (lkF types chosen) = [] ∧ ∃ s, s_greatest_payments types chosen = .ok (some s) ∧ Told types chosen n s) ∨ (rnds n (lkF types chosen) ≠ [] ∧ s_greatest_payments types chosen = .ok none ∧ ∀ p, ¬ Keep (lkF types chosen) n p) := by
  obtain ⟨s, h1, h2, h3, h4⟩ := course_ok R
  have hk := check_ok R
  have n1 := R.n1
  rw [hk, Res.bind_ok] at h4
  cases hr : rnds n (lkF types chosen) with
  | nil =>
    have hno := law_none (lk := lkF types chosen) hr
    have ty := told_yes R hno h2 h3
    refine .inl ⟨rfl, s, ?_, h1, ty.1, ty.2, least_ok R hno h1 h2 h3, fun p hp b b0 b1 => ?_⟩
    · rw [h4, if_pos ⟨keepB_iff.mpr ty.1, ty.2⟩]
    · obtain ⟨r, g1, g2⟩ := h2 b b0 b1
      have := keep_pw hp r 0 b g1
      omega
  | cons r t =>
    have hf := law_first (lk := lkF types chosen) n r t hr
    have hn := told_no hf.row hf.q
    refine .inr ⟨by simp, ?_, hn⟩
    rw [h4, if_neg fun z => hn _ (keepB_iff.mp z.1)]
/-- payments, one after the other -/
theorem law1_ok (R : Rule types chosen n e) {told : Option (List Int)} (ht : (∃ s, told = some s ∧ Told types chosen n s) ∨ (told = none ∧ ∀ p, ¬ Keep (lkF types chosen) n p)) {E M : Int} {paid : List Int} (hl : paid.length = n) : s_law_1 ((n : Int), E, M) types chosen told () paid = .ok (.nx ()) := by
  have n1 := R.n1
  have hk := keep_ok R hl
  have hlk := lkeep_ok R hl
  have e1 : (!decide (((paid.length : Nat) : Int) = ((types.length : Nat) : Int))) = false := by have := R.len; simp; omega
  have hkt : s_keep_truth types chosen paid = .ok (keepB n (lkF types chosen) (pf paid)) := by
    unfold s_keep_truth
    simp only [Res.bind_ok, check_ok R, e1, Bool.false_eq_true, if_false, hk]
  have hrg : rngR (n : Int) = .ok (rngI 0 n) := by rw [rngR_ok (by have := R.n6; omega)]; rfl
  unfold s_law_1
  simp only [Res.bind_ok, hlk, List.map_id', hkt, decide_true, Bool.not_true, Bool.false_eq_true, if_false]
  cases hb : keepB n (lkF types chosen) (pf paid) with
  | false => simp
  | true =>
    have hkeep := keepB_iff.mp hb
    rcases ht with ⟨s, rfl, T⟩ | ⟨_, hno⟩
    · have hs : orOL (some s) (repR [0] (n : Int)) = .ok s := by
        cases s with
        | nil => have := T.len; simp at this; omega
        | cons => rfl
      have hc : compR (fun t : Int => ((atR paid t).bind fun t1 => (atR paid 0).bind fun t2 => Res.ok (t1 - t2)).bind fun t1 => ((orOL (some s) (repR [0] (n : Int))).bind fun t2 => atR t2 t).bind fun t2 => Res.ok (decide (t2 < t1))) (fun t : Int => Res.ok t) (rngI 0 n) = .ok [] := by
        rw [compR_ok (q := fun _ => false) (g := fun t => t) (fun t ht => ?_) fun _ _ _ => rfl]
        · simp
        · have ht := mem_n.mp ht
          have := T.most _ hkeep t ht.1 ht.2
          rw [hs]
          simp only [pf_at hl ht, pf_at hl (show 0 ≤ (0 : Int) ∧ (0 : Int) < n by omega), Res.bind_ok, pf_at T.len ht]
          rw [decide_eq_false (by omega)]
      simp only [Option.isNone_some, Bool.and_false, Bool.false_eq_true, if_false, if_true, hrg, Res.bind_ok, hc, decide_true, Bool.not_true]
    · exact absurd hkeep (hno _)
theorem law2_ok (R : Rule types chosen n e) {ds : List Int} (hd : Dr ds) {K : Int} (hK : 0 ≤ K ∧ K < 1000) {E M : Int} {x : Int} (hx : 0 ≤ x ∧ x < 6) : s_law_2 ds K ((n : Int), E, M) types chosen () x = .ok (.nx ()) := by
  have n1 := R.n1
  have n6 := R.n6
  have hrg : rngR (n : Int) = .ok (rngI 0 n) := by rw [rngR_ok (by omega)]; rfl
  have hrows := rows_all R
  have hne : 0 < (fnd n (rngI 0 n) n).length := by
    have : [0] ∈ fnd n (rngI 0 n) n := mem_fndA.mpr ⟨⟨by simp, fun y hy => by rw [List.mem_singleton.mp hy]; omega⟩, by simp, by simpa using n1⟩
    exact List.length_pos_of_mem this
  have hc : 0 ≤ K + 43 + x ∧ K + 43 + x < 1000000 := by omega
  have mb := mixB hd hc (many := ((fnd n (rngI 0 n) n).length : Nat)) (by omega)
  obtain ⟨r, h1, h2⟩ := atR_mem (xs := fnd n (rngI 0 n) n) mb.1 mb.2
  obtain ⟨a, b, c⟩ := mem_fndA.mp h2
  have g1 : s_gain_of_round types chosen r = .ok (cyc (lkF types chosen) r) := by
    unfold s_gain_of_round
    simp only [Res.bind_ok, check_ok R, sum_round_ok R a.2 (by omega)]
  unfold s_law_2
  simp only [hrg, Res.bind_ok, hrows, mixE hd hc (show 0 < (((fnd n (rngI 0 n) n).length : Nat) : Int) by omega), h1, List.map_id', g1, lgain_ok R a.2 (by omega), decide_true, Bool.not_true, Bool.false_eq_true, if_false]
/-! ### lies are refused -/
theorem sh_pair (s : Str) (hs : PyData.canLay0 (.str s) = true) (k : Int) : PyData.canLay0 (eP eS eI (s, k)) = true ∧ PyData.depth (eP eS eI (s, k)) ≤ 1 := by
  refine ⟨by simp only [eP, PyData.canLay0, PyData.canLayAll0, Bool.and_true]; exact hs, by simp [eP, PyData.depth, PyData.depthAll]⟩
end
end K42
/-! P42: the law. -/
namespace K42
open PySem PySem.Spec PyProof.Rows L2 Pf LawC K42M
theorem upd_ok {α : Type} {s : List α} (hl : s.length ≤ 1000) {a : Int} (ha : 0 ≤ a ∧ a < s.length) (y : α) : ((catR (cutL s none (some a)) [y]).bind fun t => catR t (cutL s (some (a + 1)) none)) = .ok (s.set a.toNat y) := by
  obtain ⟨k, rfl⟩ : ∃ k : Nat, a = k := ⟨a.toNat, by omega⟩
  have h1 : cutL s (some ((k : Int) + 1)) none = s.drop (k + 1) := cutL_from s (k + 1)
  rw [cutL_to, h1, catR_ok (by simp; omega), Res.bind_ok, catR_ok (by simp; omega)]
  congr 1
  rw [Int.toNat_natCast, List.set_eq_take_append_cons_drop, if_pos (by omega)]
  simp
section
variable {types : List (List Int)} {chosen : List Int} {n e : Nat}
/-- a row that is bad in itself -/
theorem bent_exc (R : Rule types chosen n e) {a : Int} (ha : 0 ≤ a ∧ a < n) {bad : List Int} (hb : ∀ m, ¬ GoodR m bad) (ch : List Int) :
    s_check_rule (types.set a.toNat bad) ch = .exc "BadType" a := by
  have l1 := R.len
  have n6 := R.n6
  obtain ⟨k, rfl⟩ : ∃ k : Nat, a = k := ⟨a.toNat, by omega⟩
  rw [Int.toNat_natCast]
  have hcnt : 1 ≤ (types.set k bad).length ∧ (types.set k bad).length ≤ 6 := by rw [List.length_set]; omega
  have hat0 : atR (types.set k bad) 0 = .ok ((types.set k bad)[0]'(by omega)) := atR_nat (k := 0) (by omega)
  refine types_exc (chosen := ch) hcnt hat0 k (by rw [List.length_set]; omega) (fun j hj => ?_) (by rw [List.getElem_set_self]; exact hb _)
  have e0 : (types.set k bad)[0]'(by omega) = types[0]'(by omega) := by rw [List.getElem_set_ne (by omega)]
  rw [e0, List.getElem_set_ne (by omega), (R.row _ (List.getElem_mem _)).1]
  exact R.good (List.getElem_mem _)
/-- a row of another length -/
theorem long_exc (R : Rule types chosen n e) {a : Int} (ha : 0 ≤ a ∧ a < n) {bad : List Int} (hg : GoodR bad.length bad) (hne : bad.length ≠ e) (h2 : 1 < n) (ch : List Int) :
    s_check_rule (types.set a.toNat bad) ch = .exc "BadType" (if a = 0 then 1 else a) := by
  have l1 := R.len
  have n6 := R.n6
  obtain ⟨k, rfl⟩ : ∃ k : Nat, a = k := ⟨a.toNat, by omega⟩
  rw [Int.toNat_natCast]
  have hcnt : 1 ≤ (types.set k bad).length ∧ (types.set k bad).length ≤ 6 := by rw [List.length_set]; omega
  have hat0 : atR (types.set k bad) 0 = .ok ((types.set k bad)[0]'(by omega)) := atR_nat (k := 0) (by omega)
  by_cases hk : k = 0
  · subst hk
    have e0 : (types.set 0 bad)[0]'(by omega) = bad := by rw [List.getElem_set_self]
    rw [e0] at hat0
    rw [if_pos (by omega)]
    exact types_exc (chosen := ch) hcnt hat0 1 (by rw [List.length_set]; omega) (fun j hj => by
      obtain rfl : j = 0 := by omega
      rw [e0]; exact hg) (by
      rw [List.getElem_set_ne (by omega)]
      intro z
      exact hne (z.2.2.1.symm.trans (R.row _ (List.getElem_mem _)).1))
  · rw [if_neg (by omega)]
    refine types_exc (chosen := ch) hcnt hat0 k (by rw [List.length_set]; omega) (fun j hj => ?_) ?_
    · have e0 : (types.set k bad)[0]'(by omega) = types[0]'(by omega) := by rw [List.getElem_set_ne (by omega)]
      rw [e0, List.getElem_set_ne (by omega), (R.row _ (List.getElem_mem _)).1]
      exact R.good (List.getElem_mem _)
    · have e0 : (types.set k bad)[0]'(by omega) = types[0]'(by omega) := by rw [List.getElem_set_ne (by omega)]
      rw [List.getElem_set_self, e0, (R.row _ (List.getElem_mem _)).1]
      exact fun z => hne z.2.2.1
end
theorem r4 : rngR (4 : Int) = .ok (rngI 0 4) := by rw [rngR_ok (by omega)]; rfl
theorem x4 {α : Type} (x : α) : repR [x] (4 : Int) = .ok (List.replicate 4 x) := repR_1 (k := 4) (by omega)
theorem ref4 {f : Int → Res (Option (Str × Int))} {o : Option (Str × Int)} (h : ∀ w ∈ rngI 0 4, f w = .ok o) : compR (fun _ => Res.ok true) f (rngI 0 4) = .ok (List.replicate 4 o) := by
  rw [mapR_ok (g := fun _ => o) h]
  rfl
theorem sh4 (s : Str) (hs : PyData.strOk s = true) (k : Int) : SeqAt.shaped (eL (eP eS eI) (List.replicate 4 (s, k))) = true := by
  simp [SeqAt.shaped, eL, eP, eS, eI, List.replicate, PyData.canLay0, PyData.canLayAll0, PyData.depth, PyData.depthAll, hs]
theorem ne4 (s : Str) (hs : PyData.strOk s = true) (k : Int) : neR (eL (eO (eP eS eI)) (List.replicate 4 (some (s, k)))) (eL (eP eS eI) (List.replicate 4 (s, k))) = .ok false := neR_self rfl (sh4 s hs k)
theorem ne12 (s : Str) (hs : PyData.strOk s = true) (a b c : Int) : neR (eL (eL (eO (eP eS eI))) [List.replicate 4 (some (s, a)), List.replicate 4 (some (s, b)), List.replicate 4 (some (s, c))]) (eL (eL (eP eS eI)) [List.replicate 4 (s, a), List.replicate 4 (s, b), List.replicate 4 (s, c)]) = .ok false := neR_self rfl (by
  simp [SeqAt.shaped, eL, eP, eS, eI, List.replicate, PyData.canLay0, PyData.canLayAll0, PyData.depth, PyData.depthAll, hs])
theorem ne1 (s : Str) (hs : PyData.strOk s = true) (k : Int) : neR (eO (eP eS eI) (some (s, k))) (eP eS eI (s, k)) = .ok false := neR_self rfl (by
  simp [SeqAt.shaped, eL, eP, eS, eI, List.replicate, PyData.canLay0, PyData.canLayAll0, PyData.depth, PyData.depthAll, hs])
theorem law3_ok {ds : List Int} (hd : Dr ds) {x : Int} (hx : 0 ≤ x ∧ x < 4) : s_law_3 ds () x = .ok (.nx ()) := by
  have e1 : mulR 70 x = .ok (70 * x) := mulR_60 (by decide) (by omega)
  obtain ⟨K, hKe⟩ : ∃ K, K = 10 + 70 * x := ⟨_, rfl⟩
  have hK : 0 ≤ K ∧ K < 1000 := by omega
  have b1 := mixB hd (k := K) (by omega) (many := 5) (by decide)
  have b2 := mixB hd (k := K + 1) (by omega) (many := 5) (by decide)
  have b3 := mixB hd (k := K + 2) (by omega) (many := 3) (by decide)
  obtain ⟨M, hM, hMm⟩ := atR_mem (xs := [(5 : Int), 20, 1000001]) b3.1 (by simpa using b3.2)
  have hMb : 0 < M ∧ M ≤ 1000001 := by
    simp only [List.mem_cons, List.not_mem_nil, or_false] at hMm
    omega
  obtain ⟨n, hn⟩ : ∃ n : Nat, 1 + mixF ds K 5 = n := ⟨(1 + mixF ds K 5).toNat, by omega⟩
  obtain ⟨e, he⟩ : ∃ e : Nat, 1 + mixF ds (K + 1) 5 = e := ⟨(1 + mixF ds (K + 1) 5).toNat, by omega⟩
  have hn1 : 1 ≤ n ∧ n ≤ 5 := by omega
  have he1 : 1 ≤ e ∧ e ≤ 5 := by omega
  have rn : rngR (n : Int) = .ok (rngI 0 n) := by rw [rngR_ok (by omega)]; rfl
  have re : rngR (e : Int) = .ok (rngI 0 e) := by rw [rngR_ok (by omega)]; rfl
  unfold s_law_3
  simp only [Res.bind_ok, e1, ← hKe, mixE hd (k := K) (by omega) (show (0 : Int) < 5 by decide), mixE hd (k := K + 1) (by omega) (show (0 : Int) < 5 by decide), mixE hd (k := K + 2) (by omega) (show (0 : Int) < 3 by decide), hM, hn, he, rn, re]
  -- types
  obtain ⟨types, hT, lT, pT⟩ := mapR_ex (xs := rngI 0 n) (f := fun t_316 : Int => compR (fun t_316 => Res.ok true) (fun end_318 : Int => (((mulR 5 t_316).bind fun t_322 => Res.ok (K + 3 + t_322)).bind fun t_323 => Res.ok (t_323 + end_318)).bind fun t_326 => TyC.s__law_mix ds t_326 M) (rngI 0 e)) (fun _ r => r.length = e ∧ ∀ w ∈ r, 0 ≤ w ∧ w ≤ 1000000) (fun t ht => by
    have ht := mem_n.mp ht
    obtain ⟨r, h1, h2, h3⟩ := mapR_ex (xs := rngI 0 e) (f := fun end_318 : Int => (((mulR 5 t).bind fun t_322 => Res.ok (K + 3 + t_322)).bind fun t_323 => Res.ok (t_323 + end_318)).bind fun t_326 => TyC.s__law_mix ds t_326 M) (fun _ w => 0 ≤ w ∧ w ≤ 1000000) (fun z hz => by
      have hz := mem_n.mp hz
      have hm : mulR 5 t = .ok (5 * t) := mulR_60 (by decide) (by omega)
      have hc : 0 ≤ K + 3 + 5 * t + z ∧ K + 3 + 5 * t + z < 1000000 := by omega
      have := mixB hd hc hMb.1
      refine ⟨_, by rw [hm]; simp only [Res.bind_ok]; exact mixE hd hc hMb.1, by omega, by omega⟩)
    refine ⟨r, h1, by rw [h2, rngI_len], fun w hw => ?_⟩
    obtain ⟨i, hi, rfl⟩ := List.getElem_of_mem hw
    exact h3 i (by omega) hi)
  rw [hT]
  simp only [Res.bind_ok]
  have lT : types.length = n := by rw [lT, rngI_len]
  have hrow : ∀ r ∈ types, r.length = e ∧ ∀ w ∈ r, 0 ≤ w ∧ w ≤ 1000000 := fun r hr => by
    obtain ⟨i, hi, rfl⟩ := List.getElem_of_mem hr
    exact pT i (by rw [rngI_len]; omega) hi
  clear hT pT
  -- prices
  obtain ⟨prices, hP, lP, pP⟩ := mapR_ex (xs := rngI 0 e) (f := fun end_334 : Int => TyC.s__law_mix ds (K + 30 + end_334) M) (fun _ w => 0 ≤ w ∧ w ≤ 1000000) (fun z hz => by
    have hz := mem_n.mp hz
    have hc : 0 ≤ K + 30 + z ∧ K + 30 + z < 1000000 := by omega
    have := mixB hd hc hMb.1
    exact ⟨_, mixE hd hc hMb.1, by omega, by omega⟩)
  rw [hP]
  simp only [Res.bind_ok]
  have lP : prices.length = e := by rw [lP, rngI_len]
  clear hP pP
  -- what each likes best
  have pat : ∀ z : Int, 0 ≤ z ∧ z < e → atR prices z = .ok (prices.getD z.toNat 0) := fun z hz => atR_int hz.1 (by omega) 0
  obtain ⟨picks, hPi, lPi, pPi⟩ := mapR_ex (xs := types) (f := fun row_341 : List Int => compR (fun end_343 : Int => ((atR row_341 end_343).bind fun t_348 => (atR prices end_343).bind fun t_349 => Res.ok (t_348 - t_349)).bind fun t_361 => ((compR (fun t_316 => Res.ok true) (fun one_351 : Int => (atR row_341 one_351).bind fun t_356 => (atR prices one_351).bind fun t_357 => Res.ok (t_356 - t_357)) (rngI 0 e)).bind fun t_360 => ofO (maxL t_360)).bind fun t_362 => Res.ok (decide (t_361 = t_362))) (fun end_343 : Int => Res.ok end_343) (rngI 0 e))
    (fun row pk => pk ≠ [] ∧ ∀ c ∈ pk, (0 ≤ c ∧ c < e) ∧ ∀ z : Int, 0 ≤ z → z < e → row.getD z.toNat 0 - prices.getD z.toNat 0 ≤ row.getD c.toNat 0 - prices.getD c.toNat 0) (fun row hr => by
    have hl := (hrow row hr).1
    have rat : ∀ z : Int, 0 ≤ z ∧ z < e → atR row z = .ok (row.getD z.toNat 0) := fun z hz => atR_int hz.1 (by omega) 0
    have hin : compR (fun t_316 => Res.ok true) (fun one_351 : Int => (atR row one_351).bind fun t_356 => (atR prices one_351).bind fun t_357 => Res.ok (t_356 - t_357)) (rngI 0 e) = .ok ((rngI 0 e).map fun z => row.getD z.toNat 0 - prices.getD z.toNat 0) := mapR_ok fun z hz => by
      have hz := mem_n.mp hz
      simp only [rat z hz, pat z hz, Res.bind_ok]
    have hne : (rngI 0 e).map (fun z => row.getD z.toNat 0 - prices.getD z.toNat 0) ≠ [] := by
      intro z
      have := congrArg List.length z
      rw [List.length_map, rngI_len] at this
      simp at this; omega
    obtain ⟨mx, m1, m2, m3⟩ := maxL_ex hne
    refine ⟨(rngI 0 e).filter fun z => decide (row.getD z.toNat 0 - prices.getD z.toNat 0 = mx), ?_, ?_, fun c hc => ?_⟩
    · rw [compR_ok (q := fun z => decide (row.getD z.toNat 0 - prices.getD z.toNat 0 = mx)) (g := fun z => z) (fun z hz => ?_) fun _ _ _ => rfl, List.map_id']
      have hz := mem_n.mp hz
      simp only [rat z hz, pat z hz, Res.bind_ok, hin, m1, ofO_some]
    · obtain ⟨z, z1, z2⟩ := List.mem_map.mp m2
      intro h
      have : z ∈ (rngI 0 e).filter fun z => decide (row.getD z.toNat 0 - prices.getD z.toNat 0 = mx) := List.mem_filter.mpr ⟨z1, decide_eq_true z2⟩
      rw [h] at this; cases this
    · obtain ⟨c1, c2⟩ := List.mem_filter.mp hc
      have c2 := of_decide_eq_true c2
      refine ⟨mem_n.mp c1, fun z z0 z1 => ?_⟩
      rw [c2]
      exact m3 _ (List.mem_map.mpr ⟨z, mem_n.mpr ⟨z0, z1⟩, rfl⟩))
  rw [hPi]
  simp only [Res.bind_ok]
  clear hPi
  -- what is chosen
  have m42 := mixB hd (k := K + 42) (by omega) (many := 2) (by decide)
  obtain ⟨chosen, hC, lC, pC⟩ := mapR_ex (xs := rngI 0 n) (f := fun t_369 : Int => ((TyC.s__law_mix ds (K + 36 + t_369) (e : Int)).bind fun t_385 => (((atR picks t_369).bind fun t_378 => (((atR picks t_369).bind fun t_374 => Res.ok ((t_374.length : Nat) : Int)).bind fun t_377 => TyC.s__law_mix ds (K + 36 + t_369) t_377).bind fun t_379 => atR t_378 t_379).bind fun t_380 => Res.ok [t_380]).bind fun t_386 => Res.ok (t_385 :: t_386)).bind fun t_393 => (((TyC.s__law_mix ds (K + 42) 2).bind fun t_390 => Res.ok (decide (t_390 = 0))).bind fun t_392 => Res.ok (if t_392 = true then (1 : Int) else 0)).bind fun t_394 => atR t_393 t_394)
    (fun _ c => 0 ≤ c ∧ c < e) (fun t ht => by
    have ht := mem_n.mp ht
    have hc : 0 ≤ K + 36 + t ∧ K + 36 + t < 1000000 := by omega
    obtain ⟨pk, hpk, hpm⟩ := atR_mem (xs := picks) ht.1 (by omega)
    obtain ⟨i, hi, rfl⟩ := List.getElem_of_mem hpm
    have pp := pPi i (by omega) hi
    have hlen : 0 < picks[i].length := List.length_pos_iff.mpr pp.1
    have mb := mixB hd hc (many := ((picks[i].length : Nat) : Int)) (by omega)
    have mb2 := mixB hd hc (many := (e : Int)) (by omega)
    obtain ⟨c, c1, c2⟩ := atR_mem (xs := picks[i]) mb.1 mb.2
    have c3 := (pp.2 c c2).1
    simp only [mixE hd hc (show (0 : Int) < (e : Int) by omega), hpk, Res.bind_ok, mixE hd hc (show (0 : Int) < ((picks[i].length : Nat) : Int) by omega), c1, mixE hd (k := K + 42) (by omega) (show (0 : Int) < 2 by decide)]
    by_cases q : mixF ds (K + 42) 2 = 0
    · rw [decide_eq_true q, if_pos rfl]
      exact ⟨c, atR_nat (k := 1) (by simp), c3⟩
    · rw [decide_eq_false q, if_neg (by simp)]
      exact ⟨_, atR_nat (k := 0) (by simp), mb2⟩)
  rw [hC]
  simp only [Res.bind_ok]
  have lC : chosen.length = n := by rw [lC, rngI_len]
  have R : Rule types chosen n e := ⟨lT, lC, hn1.1, hn1.2, he1.1, he1.2, hrow, fun c hc => by
    obtain ⟨i, hi, rfl⟩ := List.getElem_of_mem hc
    exact pC i (by rw [rngI_len]; omega) hi⟩
  clear hC pC
  -- rounds
  obtain ⟨o, o1, o2⟩ := first_ok R
  rw [rows_all R]
  simp only [Res.bind_ok]
  rw [rounds_ok R]
  simp only [Res.bind_ok, List.map_id', o1, o2, decide_true, Bool.not_true, Bool.false_eq_true, if_false]
  have r6 : rngR (6 : Int) = .ok (rngI 0 6) := by rw [rngR_ok (by omega)]; rfl
  rw [r6, Res.bind_ok, forR_all (fun y hy => law2_ok R hd hK (by have := mem_rngI.mp hy; omega)), seqF_nx]
  -- the greatest payments
  obtain ⟨told, g1, g2, g3⟩ : ∃ told, s_greatest_payments types chosen = .ok told ∧ ((∃ s, told = some s ∧ Told types chosen n s) ∨ (told = none ∧ ∀ p, ¬ Keep (lkF types chosen) n p)) ∧ (!decide (told.isNone = !decide (rnds n (lkF types chosen) = []))) = false := by
    rcases told_ok R with ⟨h1, s, h2, h3⟩ | ⟨h1, h2, h3⟩
    · exact ⟨_, h2, .inl ⟨s, rfl, h3⟩, by simp [h1]⟩
    · exact ⟨_, h2, .inr ⟨rfl, h3⟩, by simp [h1]⟩
  simp only [g1, Res.bind_ok, g3, Bool.false_eq_true, if_false]
  -- payments
  obtain ⟨p0, hp0, lp0, _⟩ := mapR_ex (xs := rngI 0 n) (f := fun t_441 : Int => TyC.s__law_mix ds (K + 50 + t_441) M) (fun _ _ => True) (fun z hz => by
    have hz := mem_n.mp hz
    exact ⟨_, mixE hd (by omega) hMb.1, trivial⟩)
  have lp0 : p0.length = n := by rw [lp0, rngI_len]
  have hp1 : compR (fun t_316 => Res.ok true) (fun end_433 : Int => atR prices end_433) chosen = .ok (chosen.map fun c => prices.getD c.toNat 0) := mapR_ok fun c hc => pat c (R.ch c hc)
  obtain ⟨p1, hp1e⟩ : ∃ p1, p1 = chosen.map fun c => prices.getD c.toNat 0 := ⟨_, rfl⟩
  rw [← hp1e] at hp1
  have lp1 : p1.length = n := by rw [hp1e, List.length_map]; exact lC
  have hp2 : repR [(0 : Int)] (n : Int) = .ok (List.replicate n 0) := repR_1 (by omega)
  simp only [hp0, hp1, hp2, Res.bind_ok]
  have b56 := mixB hd (k := K + 56) (by omega) (many := (n : Int)) (by omega)
  obtain ⟨Q, hQ, hQl, hQ1⟩ : ∃ Q : List (List Int), (if told.isSome = true then ((((s__law_greatest types chosen).bind fun t_457 => Res.ok (some t_457)).bind fun t_459 => Res.ok !decide (told = t_459)).bind fun t_460 => if t_460 = true then Res.ok true else ((unO told).bind fun t_453 => s__law_keeps types chosen t_453).bind fun t_454 => Res.ok !t_454).bind fun b => if b = true then Res.ok (Fl.ret false) else (TyC.s__law_mix ds (K + 56) (n : Int)).bind fun at_461 => (((unO told).bind fun t_494 => (((((unO told).bind fun t_473 => Res.ok (cutL t_473 none (some at_461))).bind fun t_483 => ((((unO told).bind fun t_477 => atR t_477 at_461).bind fun t_479 => Res.ok (t_479 + 1)).bind fun t_380 => Res.ok [t_380]).bind fun t_484 => catR t_483 t_484).bind fun t_489 => ((unO told).bind fun t_486 => Res.ok (cutL t_486 (some (at_461 + 1)) none)).bind fun t_490 => catR t_489 t_490).bind fun t_491 => (((unO told).bind fun t_469 => Res.ok (List.map (fun one_467 : Int => one_467 + 7) t_469)).bind fun t_431 => Res.ok [t_431]).bind fun t_492 => Res.ok (t_491 :: t_492)).bind fun t_495 => Res.ok (t_494 :: t_495)).bind fun t_497 => catR [p0, p1, List.replicate n 0] t_497).bind fun paids_465 => (if decide (0 < at_461) = true then (atR paids_465 4).bind fun t_453 => s__law_keeps types chosen t_453 else Res.ok false).bind fun b => if b = true then Res.ok (Fl.ret false) else Res.ok (Fl.nx paids_465) else (Res.ok (Fl.nx [p0, p1, List.replicate n 0]) : Res (Fl (List (List Int)) Bool))) = .ok (.nx Q) ∧ (∀ q ∈ Q, q.length = n) ∧ atR Q 1 = .ok p1 := by
    rcases g2 with ⟨s, rfl, T⟩ | ⟨rfl, _⟩
    · have hat : atR s (mixF ds (K + 56) (n : Int)) = .ok (pf s (mixF ds (K + 56) (n : Int))) := pf_at T.len b56
      have hkp : s__law_keeps types chosen s = .ok true := by rw [lkeep_ok R T.len, keepB_iff.mpr T.keep]
      have hup := upd_ok (s := s) (by have := T.len; omega) (a := mixF ds (K + 56) (n : Int)) (by have := T.len; omega) (pf s (mixF ds (K + 56) (n : Int)) + 1)
      obtain ⟨A, hA⟩ : ∃ A, A = mixF ds (K + 56) (n : Int) := ⟨_, rfl⟩
      rw [← hA] at hat hup b56
      have ls' : (s.set A.toNat (pf s A + 1)).length = n := by rw [List.length_set]; exact T.len
      have hno : 0 < A → keepB n (lkF types chosen) (pf (s.set A.toNat (pf s A + 1))) = false := fun hA0 => by
        cases hb : keepB n (lkF types chosen) (pf (s.set A.toNat (pf s A + 1))) with
        | false => rfl
        | true =>
          have hk := keepB_iff.mp hb
          have := T.most _ hk A b56.1 b56.2
          rw [pf_set ⟨b56.1, by have := T.len; omega⟩ b56.1, pf_set ⟨b56.1, by have := T.len; omega⟩ (by decide), if_pos rfl, if_neg (by omega), T.zero] at this
          omega
      have hcat : catR [p0, p1, List.replicate n 0] [s, s.set A.toNat (pf s A + 1), s.map fun one_467 : Int => one_467 + 7] = .ok [p0, p1, List.replicate n 0, s, s.set A.toNat (pf s A + 1), s.map fun one_467 : Int => one_467 + 7] := catR_ok (by simp)
      refine ⟨[p0, p1, List.replicate n 0, s, s.set A.toNat (pf s A + 1), s.map fun one_467 : Int => one_467 + 7], ?_, ?_, atR_nat (k := 1) (by simp)⟩
      · simp only [Option.isSome_some, if_true, T.law, Res.bind_ok, decide_true, Bool.not_true, Bool.false_eq_true, if_false, unO, hkp, mixE hd (k := K + 56) (by omega) (show (0 : Int) < (n : Int) by omega), ← hA, hat]
        rw [hup]
        simp only [Res.bind_ok, hcat]
        by_cases hA0 : 0 < A
        · have hat4 : atR [p0, p1, List.replicate n 0, s, s.set A.toNat (pf s A + 1), s.map fun one_467 : Int => one_467 + 7] 4 = .ok (s.set A.toNat (pf s A + 1)) := atR_nat (k := 4) (by simp)
          simp only [decide_eq_true hA0, if_true, hat4, Res.bind_ok, lkeep_ok R ls', hno hA0, Bool.false_eq_true, if_false]
        · simp only [decide_eq_false hA0, Bool.false_eq_true, if_false, Res.bind_ok]
      · intro q hq
        simp only [List.mem_cons, List.not_mem_nil, or_false] at hq
        have := T.len
        rcases hq with rfl | rfl | rfl | rfl | rfl | rfl <;> first | assumption | simp [T.len]
    · refine ⟨[p0, p1, List.replicate n 0], rfl, ?_, atR_nat (k := 1) (by simp)⟩
      intro q hq
      simp only [List.mem_cons, List.not_mem_nil, or_false] at hq
      rcases hq with rfl | rfl | rfl <;> first | assumption | simp
  rw [hQ, seqF_nx, forR_all (fun q hq => law1_ok R g2 (hQl q hq)), seqF_nx]
  -- the picks
  have hpk : ∃ L, compR (fun t_514 : Int => (atR chosen t_514).bind fun t_519 => (atR picks t_514).bind fun t_520 => Res.ok !decide (t_519 ∈ t_520)) (fun end_343 : Int => Res.ok end_343) (rngI 0 n) = .ok L ∧ (L = [] → ∀ i (hi : i < n), chosen[i] ∈ picks[i]'(by omega)) := by
    refine ⟨(rngI 0 n).filter fun t => !decide (chosen.getD t.toNat 0 ∈ picks.getD t.toNat []), ?_, fun h i hi => ?_⟩
    · rw [compR_ok (q := fun t => !decide (chosen.getD t.toNat 0 ∈ picks.getD t.toNat [])) (g := fun z => z) (fun t ht => ?_) fun _ _ _ => rfl, List.map_id']
      have ht := mem_n.mp ht
      rw [atR_int (d := 0) ht.1 (by omega), Res.bind_ok, atR_int (d := []) ht.1 (by omega), Res.bind_ok]
    · have hz : ((i : Nat) : Int) ∈ rngI 0 n := mem_n.mpr (by omega)
      by_cases q : chosen[i] ∈ picks[i]'(by omega)
      · exact q
      · have : ((i : Nat) : Int) ∈ (rngI 0 n).filter fun t => !decide (chosen.getD t.toNat 0 ∈ picks.getD t.toNat []) := by
          refine List.mem_filter.mpr ⟨hz, ?_⟩
          have z1 : chosen.getD i 0 = chosen[i] := by simp [List.getD, List.getElem?_eq_getElem (show i < chosen.length by omega)]
          have z2 : picks.getD i [] = picks[i]'(by omega) := by simp [List.getD, List.getElem?_eq_getElem (show i < picks.length by omega)]
          rw [Int.toNat_natCast, z1, z2, decide_eq_false q]
          rfl
        rw [h] at this
        cases this
  obtain ⟨L, hL, hL2⟩ := hpk
  have hsel : (if decide (L = []) = true then if told.isNone = true then Res.ok true else ((atR Q 1).bind fun t_453 => s__law_keeps types chosen t_453).bind fun t_454 => Res.ok !t_454 else Res.ok false) = .ok false := by
    by_cases q : L = []
    · have hin := hL2 q
      have hkp : Keep (lkF types chosen) n (pf p1) := fun a b a0 an b0 bn => by
        obtain ⟨i, rfl⟩ : ∃ i : Nat, a = i := ⟨a.toNat, by omega⟩
        obtain ⟨j, rfl⟩ : ∃ j : Nat, b = j := ⟨b.toNat, by omega⟩
        have z1 : ∀ k (hk : k < n), chosen.getD k 0 = chosen[k] := fun k hk => by simp [List.getD, List.getElem?_eq_getElem (show k < chosen.length by omega)]
        have z2 : types.getD i [] = types[i]'(by omega) := by simp [List.getD, List.getElem?_eq_getElem (show i < types.length by omega)]
        have z3 : ∀ k (hk : k < chosen.length), p1.getD k 0 = prices.getD (chosen[k]'hk).toNat 0 := fun k hk => by
          rw [hp1e]
          simp [List.getD, List.getElem?_eq_getElem hk]
        unfold lkF pf
        simp only [Int.toNat_natCast]
        rw [z1 i (by omega), z1 j (by omega), z2, z3 i (by omega), z3 j (by omega)]
        have cj := R.ch _ (List.getElem_mem (show j < chosen.length by omega))
        have := ((pPi i (by omega) (by omega)).2 _ (hin i (by omega))).2 chosen[j] cj.1 cj.2
        omega
      have hk : s__law_keeps types chosen p1 = .ok true := by rw [lkeep_ok R lp1, keepB_iff.mpr hkp]
      rcases g2 with ⟨s, rfl, T⟩ | ⟨rfl, hno⟩
      · simp only [decide_eq_true q, if_true, Option.isNone_some, Bool.false_eq_true, if_false, hQ1, Res.bind_ok, hk, Bool.not_true]
      · exact absurd hkp (hno _)
    · rw [decide_eq_false q, if_neg (by simp)]
  -- what is refused
  obtain ⟨A, hA⟩ : ∃ A, mixF ds (K + 57) (n : Int) = A := ⟨_, rfl⟩
  have b57 := mixB hd (k := K + 57) (by omega) (many := (n : Int)) (by omega)
  have b58 := mixB hd (k := K + 58) (by omega) (many := 2) (by decide)
  rw [hA] at b57
  have q1 : repR [(-1 : Int)] (e : Int) = .ok (List.replicate e (-1)) := repR_1 (by omega)
  have q2 : repR [(1000001 : Int)] (e : Int) = .ok (List.replicate e 1000001) := repR_1 (by omega)
  have q3 : repR [(1 : Int)] ((e : Int) + 1) = .ok (List.replicate (e + 1) 1) := repR_1 (k := e + 1) (by omega)
  have q4 : repR [(0 : Int)] ((n : Int) + 1) = .ok (List.replicate (n + 1) 0) := repR_1 (k := n + 1) (by omega)
  have q5 : repR [[(1 : Int)]] (7 : Int) = .ok (List.replicate 7 [1]) := repR_1 (k := 7) (by omega)
  have up : ∀ bad : List Int, ((catR (cutL types none (some A)) [bad]).bind fun t_546 => catR t_546 (cutL types (some (A + 1)) none)) = .ok (types.set A.toNat bad) := fun bad => upd_ok (by omega) (by omega) bad
  have hben : compR (fun row_341 : List Int => Res.ok true) (fun bad_543 : List Int => (catR (cutL types none (some A)) [bad_543]).bind fun t_546 => catR t_546 (cutL types (some (A + 1)) none)) [List.replicate e (-1), List.replicate e 1000001, List.replicate (e + 1) 1] = .ok [types.set A.toNat (List.replicate e (-1)), types.set A.toNat (List.replicate e 1000001), types.set A.toNat (List.replicate (e + 1) 1)] :=
    mapR_ok (g := fun bad => types.set A.toNat bad) fun bad _ => up bad
  have hdue : atR [A, 1] (if decide (A = 0) = true then (1 : Int) else 0) = .ok (if A = 0 then 1 else A) := by
    by_cases q : A = 0
    · rw [decide_eq_true q, if_pos rfl, if_pos q]
      exact atR_nat (k := 1) (by simp)
    · rw [decide_eq_false q, if_neg (by simp), if_neg q]
      exact atR_nat (k := 0) (by simp)
  have bad1 : ∀ m, ¬ GoodR m (List.replicate e (-1)) := fun m z => by
    have := z.2.2.2 (-1) (List.mem_replicate.mpr ⟨by omega, rfl⟩)
    omega
  have bad2 : ∀ m, ¬ GoodR m (List.replicate e 1000001) := fun m z => by
    have := z.2.2.2 1000001 (List.mem_replicate.mpr ⟨by omega, rfl⟩)
    omega
  have good3 : GoodR (List.replicate (e + 1) (1 : Int)).length (List.replicate (e + 1) 1) := ⟨by simp, by simp; omega, rfl, fun x hx => by rw [(List.mem_replicate.mp hx).2]; omega⟩
  have hbents : (if decide (1 < (n : Int)) = true then
      (compR (fun bent_561 : List (List Int) => Res.ok true) (fun bent_561 : List (List Int) => compR (fun t_316 : Int => Res.ok true) (fun t_564 : Int => s__law_refused t_564 bent_561 [99] []) (rngI 0 4)) [types.set A.toNat (List.replicate e (-1)), types.set A.toNat (List.replicate e 1000001), types.set A.toNat (List.replicate (e + 1) 1)]).bind fun t_577 =>
        (compR (fun one_572 : Str × Int => Res.ok true) (fun one_572 : Str × Int => Res.ok (List.replicate 4 one_572)) [(Str.ofString "type", A), (Str.ofString "type", A), (Str.ofString "type", if A = 0 then 1 else A)]).bind fun t_578 =>
          neR (eL (eL (eO (eP eS eI))) t_577) (eL (eL (eP eS eI)) t_578) else Res.ok false) = .ok false := by
    by_cases q : 1 < n
    · rw [if_pos (by simp; omega)]
      have w1 := ref4 (f := fun t_564 : Int => s__law_refused t_564 (types.set A.toNat (List.replicate e (-1))) [99] []) fun w hw => refused_exc (bent_exc R b57 bad1 [99]) (try_type A) hw
      have w2 := ref4 (f := fun t_564 : Int => s__law_refused t_564 (types.set A.toNat (List.replicate e 1000001)) [99] []) fun w hw => refused_exc (bent_exc R b57 bad2 [99]) (try_type A) hw
      have w3 := ref4 (f := fun t_564 : Int => s__law_refused t_564 (types.set A.toNat (List.replicate (e + 1) 1)) [99] []) fun w hw => refused_exc (long_exc R b57 good3 (by simp) q [99]) (try_type (if A = 0 then 1 else A)) hw
      simp only [compR, w1, w2, w3, Res.bind_ok, if_true]
      exact ne12 _ (by decide +kernel) _ _ _
    · rw [if_neg (by simp; omega)]
  have e58 := mixE hd (k := K + 58) (by omega) (show (0 : Int) < 2 by decide)
  obtain ⟨od, hod, hodb⟩ : ∃ od : Int, atR [(e : Int), -1] (mixF ds (K + 58) 2) = .ok od ∧ ¬ (0 ≤ od ∧ od < (e : Int)) := by
    obtain ⟨x, h1, h2⟩ := atR_mem (xs := [(e : Int), -1]) b58.1 (by simpa using b58.2)
    refine ⟨x, h1, ?_⟩
    simp only [List.mem_cons, List.not_mem_nil, or_false] at h2
    omega
  have hodd : ((catR (cutL chosen none (some A)) [od]).bind fun t => catR t (cutL chosen (some (A + 1)) none)) = .ok (chosen.set A.toNat od) := upd_ok (by omega) (by omega) od
  have c1 : cutL chosen (some 1) none = chosen.drop 1 := cutL_from chosen 1
  have eA : ((A.toNat : Nat) : Int) = A := by omega
  have hx1 : s_check_rule types (chosen.set A.toNat od) = .exc "BadEnd" A := by
    have := ends_exc R (chosen.set A.toNat od) A.toNat (by rw [List.length_set]; omega) (by omega) (fun j hj => by
      rw [List.getElem_set_ne (by omega)]
      exact R.ch _ (List.getElem_mem _)) (by rw [List.getElem_set_self]; exact hodb)
    rw [eA] at this
    exact this
  have hx2 : s_check_rule types (chosen.drop 1) = .exc "BadEnd" n := ends_short R _ (by rw [List.length_drop]; omega) fun c hc => R.ch c (List.mem_of_mem_drop hc)
  have f1 := ref4 (f := fun t_596 : Int => s__law_refused t_596 [] [] []) fun w hw => refused_exc (none_exc (.inl rfl)) (try_type (-1)) hw
  have f2 := ref4 (f := fun t_584 : Int => s__law_refused t_584 (List.replicate 7 [1]) [] []) fun w hw => refused_exc (none_exc (.inr (by simp))) (try_type (-1)) hw
  have f3 := ref4 (f := fun t_633 : Int => s__law_refused t_633 types (chosen.set A.toNat od) []) fun w hw => refused_exc hx1 (try_end A) hw
  have f4 := ref4 (f := fun t_621 : Int => s__law_refused t_621 types (chosen.drop 1) []) fun w hw => refused_exc hx2 (try_end n) hw
  have p1x := refused_paid R (List.replicate (n + 1) 0) (by simp)
  have p2x := refused_paid R [] (by simp; omega)
  have nt := ne4 "type" (by decide +kernel) (-1)
  have n1e := ne4 "end" (by decide +kernel) A
  have n2e := ne4 "end" (by decide +kernel) (n : Int)
  have n3e := ne1 "paid" (by decide +kernel) 0
  simp only [hL, Res.bind_ok, hsel, Bool.false_eq_true, if_false, mixE hd (k := K + 57) (by omega) (show (0 : Int) < (n : Int) by omega), hA, q1, q2, q3, q4, q5, hben, hdue, r4, hbents, f1, f2, x4, nt, e58, hod, hodd, c1, f3, f4, n1e, n2e, p1x, p2x, n3e]
theorem s_law_ok (ns : List Int) (h : ns.length ≤ 63) : s_law ns = .ok true := by
  obtain ⟨h1, h2⟩ := drawsR_ok h
  unfold s_law
  simp only [Res.bind_ok, h1, r4]
  rw [forR_all fun x hx => law3_ok h2 (by have := mem_rngI.mp hx; omega), seqF_nx]
theorem plain : ∀ ns : List Int, ns.length ≤ 63 → m_law [scr ns] = .ok (.bool true) := fun ns h => RR.out (t_law ns) (s_law_ok ns h)
end K42
namespace K42
open PySem PySem.Spec PyProof.Rows L2 Pf

abbrev R : PySem.W.OpenRow := PySem.W.OpenLaw.row PySem.Challenge.rw_truebidsbest_k42_main_rules_and_rounds_o
abbrev hk : PySem.W.Hook := hookT 4 wt
def ob (s : PySem.W.SharedT) : AlT := obsTG 4 wt (HandSHeadRun.getT s)
theorem ob_eq (s : PySem.W.SharedT) : ob s = hk.obs s.abs := obsTG_eq (HandSHeadRun.getT_eq s)
theorem run (w : World) : HandSHeadRun.RunEq R (PySem.W.view R.prog [27]) hk ob 100000 names w := by
  intro os
  kernel_rfl
theorem facts {w : World} {K : PySem.W.Frag} {h : Heap} {mg : Str → Option Value} {f : Addr} (X : K.In h) (G : h.Ns mainGlobals mg) (hfa : mg ("law" : Str) = some (.ref f)) (c : SaysT wt K) :
    ∃ fd : FuncData, (∀ (s : Shared) (v : Value), BindsTo s fd ⟨[v], []⟩ [("script", v)]) ∧ ∀ base : Heap, FnOk PP w K mg base CX0 6 f fd ["script"] (fun vs H Q _ => spOf K mg 1 m_law vs H Q (fun _ _ _ => False)) := by
  have m : M K mg := ⟨⟨h, X, G⟩, c⟩
  obtain ⟨fd, F⟩ := m.fn_law
  have e := hfa.symm.trans m.gl_law
  cases e
  have b := FunD.bindsA (ps := ["script"]) F fun _ _ _ _ _ _ us hl => match us, hl with | [_], _ => rfl
  exact ⟨fd, fun s v => b s [v] rfl, fun base => fn_close (ok_law m F)⟩
end K42
open PySem PySem.W PySem.Calls PyProof.Rows
theorem PySem.Challenge.cw_truebidsbest_k42_main_rules_and_rounds_o_holds : PySem.Challenge.rw_truebidsbest_k42_main_rules_and_rounds_o.Holds := by
  w_on; o_law
  refine HandSHeadRun.head_any (r := OpenLaw.row PySem.Challenge.rw_truebidsbest_k42_main_rules_and_rounds_o) (q := view (OpenLaw.row PySem.Challenge.rw_truebidsbest_k42_main_rules_and_rounds_o).prog [27]) (H := K42.hk) (ob := K42.ob) (M := 100000) (loose := K42.names) (d := HandSHeadRun.topDef (OpenLaw.row PySem.Challenge.rw_truebidsbest_k42_main_rules_and_rounds_o).prog 27) (kwd := []) K42.ob_eq
    (by kernel_rfl) (fun s => by kernel_rfl) K42.run (by kernel_rfl) (by kernel_rfl) (by kernel_rfl) (by rfl) (by first | assumption | decide +kernel) (by decide +kernel) ⟨rfl, rfl, rfl, rfl, rfl, by decide +kernel⟩ ?hw ?hc
  case hw => w_witness2
  case hc =>
    refine L2.walk_ofE (l := PySem.Challenge.rw_truebidsbest_k42_main_rules_and_rounds_o) (n := 63) (k := 6) (x := "script") (CX := L2.CX0) rfl (by decide) (by kernel_rfl) ⟨rfl, by decide, by decide⟩ ?F (fun _ _ _ _ z => z)
    intro w mg fa h Y G hmg0
    obtain ⟨K, KX, c⟩ := Y
    have hmg : mg ("law" : PySem.Str) = some (.ref fa) := by
      have e : (HandSHeadRun.topDef (OpenLaw.row PySem.Challenge.rw_truebidsbest_k42_main_rules_and_rounds_o).prog 27).name = ("law" : PySem.Str) := by kernel_rfl
      rw [← e]
      exact hmg0
    obtain ⟨fd, hb, hF⟩ := K42.facts (w := w) KX G hmg c
    exact ⟨K, fd, (fun vs H Q _ => Pf.spOf K mg 1 K42.m_law vs H Q (fun _ _ _ => False)), KX, hb, fun H a ns hl hO hS => Pf.sp_law K42.plain H a ns hl hO hS, fun base _ _ => hF base⟩
