import PyProof.Rows.All
import Wide.All
import OpenK.AllK
import Wide.FinOn
import KE.KStateDown
import Lean
import HandS.ForMost
import HandS.ForExc
import HandS.TryMany
import HandS.Wide
import HandS.Flow
import HandS.Style
import HandS.SortInts
import HandS.Conv
import HandS.ExcField
import KE.KExcSuper
import HandS.ExcInit
import KE.DataCmp
import HandS.Strs
import HandS.Star
import HandS.FltList
import HandS.Set
import HandS.Defaults
import HandS.HeadHook2
import HandS.Head0
import HandS.Head1
import HandS.Head2
import HandS.HeadEnd
import HandS.Deep
import KE.SortData
import KE.DataMinMax
import PySem.Challenge.RW_truebidsbest_k03_main_money_given_back_b
set_option Elab.async false
set_option linter.all false
set_option maxRecDepth 100000
set_option maxHeartbeats 0
set_option autoImplicit false
/-! Pf1: data in regions, slots, readings by plain functions. -/
namespace Pf
open PySem PySem.Spec PyProof.Rows L2

/-! ### answers -/
inductive Res (α : Type) where
  | ok (a : α)
  | exc (c : Str) (k : Int)
  | bad
def Res.bind {α β : Type} : Res α → (α → Res β) → Res β
  | .ok a, f => f a
  | .exc c k, _ => .exc c k
  | .bad, _ => .bad
def ofO {α : Type} : Option α → Res α
  | some a => .ok a
  | none => .bad
def Res.opt {α : Type} : Res α → Option α
  | .ok a => some a
  | _ => none
@[simp] theorem Res.bind_ok {α β : Type} (a : α) (f : α → Res β) : (Res.ok a).bind f = f a := rfl
@[simp] theorem Res.bind_exc {α β : Type} (c : Str) (k : Int) (f : α → Res β) : (Res.exc c k).bind f = .exc c k := rfl
@[simp] theorem Res.bind_bad {α β : Type} (f : α → Res β) : (Res.bad).bind f = .bad := rfl
@[simp] theorem ofO_some {α : Type} (a : α) : ofO (some a) = .ok a := rfl
@[simp] theorem ofO_none {α : Type} : ofO (none : Option α) = .bad := rfl
@[simp] theorem Res.opt_ok {α : Type} (a : α) : (Res.ok a).opt = some a := rfl

/-! ### data in a region -/
abbrev Rg := Addr → Prop
/-- a list, a tuple of the written part -/
def StL (K : PySem.W.Frag) (a : Addr) (xs : List V) : Prop :=
  ∃ (o : Obj) (its : Array Value) (n : Nat), K.lookup a = some o ∧ o.cls = .type "list" ∧ o.dict = none ∧ o.data = .seq its n ∧ its.size ≤ sizeLine ∧ Vals xs its.toList
def StT (K : PySem.W.Frag) (a : Addr) (xs : List V) : Prop :=
  ∃ (o : Obj) (its : Array Value) (n : Nat), K.lookup a = some o ∧ o.cls = .type "tuple" ∧ o.data = .seq its n ∧ its.size ≤ sizeLine ∧ Vals xs its.toList
theorem StL.sq {K : PySem.W.Frag} {a : Addr} {xs : List V} (h : StL K a xs) (H : Hp) : SqL K H a xs := .inr h
theorem StT.sq {K : PySem.W.Frag} {a : Addr} {xs : List V} (h : StT K a xs) (H : Hp) : SqT K H a xs := .inr h
/-- the law's script, as a datum of its own -/
abbrev scr (ns : List Int) : PyData := .dict (ns.map fun n => (PyData.none, PyData.int n))
mutual
inductive Rp (K : PySem.W.Frag) (F : Rg) (H : Hp) : V → PyData → Prop
  | non : Rp K F H .non .none
  | bl (b : Bool) : Rp K F H (.bl b) (.bool b)
  | int (i : Int) : Rp K F H (.int i) (.int i)
  | str (x : Str) : Rp K F H (.str x) (.str x)
  | lst {a : Addr} {xs : List V} {ds : List PyData} : F a → H a = some (.lst xs) → Rps K F H xs ds → Rp K F H (.ref a) (.list ds)
  | scr {a : Addr} {o : Obj} {ns : List Int} : F a → H a = some (.frz o (.lst (ns.map V.int))) → Rp K F H (.ref a) (.dict (ns.map fun n => (PyData.none, PyData.int n)))
  | scrK {a : Addr} {ns : List Int} : StL K a (ns.map V.int) → Rp K F H (.ref a) (.dict (ns.map fun n => (PyData.none, PyData.int n)))
  | tup {a : Addr} {xs : List V} {ds : List PyData} : F a → H a = some (.tup xs) → Rps K F H xs ds → Rp K F H (.ref a) (.tuple ds)
  | tupK {a : Addr} {xs : List V} {ds : List PyData} : StT K a xs → Rps K F H xs ds → Rp K F H (.ref a) (.tuple ds)
inductive Rps (K : PySem.W.Frag) (F : Rg) (H : Hp) : List V → List PyData → Prop
  | nil : Rps K F H [] []
  | cons {v : V} {vs : List V} {d : PyData} {ds : List PyData} : Rp K F H v d → Rps K F H vs ds → Rps K F H (v :: vs) (d :: ds)
end
section
variable {K : PySem.W.Frag} {F F' : Rg} {H H' : Hp}
theorem SqL.keepF {a : Addr} {xs : List V} (k : ∀ o, H a = some o → H' a = some o) (h : SqL K H a xs) : SqL K H' a xs := by
  rcases h with (h | ⟨o, h⟩) | h
  · exact .inl (.inl (k _ h))
  · exact .inl (.inr ⟨o, k _ h⟩)
  · exact .inr h
theorem SqT.keepF {a : Addr} {xs : List V} (k : ∀ o, H a = some o → H' a = some o) (h : SqT K H a xs) : SqT K H' a xs := by
  rcases h with (h | ⟨o, h⟩) | h
  · exact .inl (.inl (k _ h))
  · exact .inl (.inr ⟨o, k _ h⟩)
  · exact .inr h
mutual
theorem Rp.mono (s : ∀ a, F a → F' a) (k : ∀ a, F a → ∀ o, H a = some o → H' a = some o) : ∀ (d : PyData) (v : V), Rp K F H v d → Rp K F' H' v d
  | .none, _, h => by cases h; exact .non
  | .bool b, _, h => by cases h; exact .bl b
  | .int i, _, h => by cases h; exact .int i
  | .str x, _, h => by cases h; exact .str x
  | .list ds, _, h => by
    cases h with
    | lst f q r => exact .lst (s _ f) (k _ f _ q) (Rps.mono s k ds _ r)
  | .tuple ds, _, h => by
    cases h with
    | tup f q r => exact .tup (s _ f) (k _ f _ q) (Rps.mono s k ds _ r)
    | tupK q r => exact .tupK q (Rps.mono s k ds _ r)
  | .dict _, _, h => by
    cases h with
    | scr f q => exact .scr (s _ f) (k _ f _ q)
    | scrK q => exact .scrK q
theorem Rps.mono (s : ∀ a, F a → F' a) (k : ∀ a, F a → ∀ o, H a = some o → H' a = some o) : ∀ (ds : List PyData) (vs : List V), Rps K F H vs ds → Rps K F' H' vs ds
  | [], _, h => by cases h; exact .nil
  | d :: ds, _, h => by
    cases h with
    | cons a b => exact .cons (Rp.mono s k d _ a) (Rps.mono s k ds _ b)
end
mutual
theorem Rp.dp : ∀ (d : PyData) (v : V), d.canLay0 = true → Rp K F H v d → Dp K H v d
  | .none, _, _, h => by cases h; exact .non
  | .bool b, _, _, h => by cases h; exact .bl b
  | .int i, _, _, h => by cases h; exact .int i
  | .str x, _, _, h => by cases h; exact .str x
  | .list ds, _, c, h => by
    cases h with
    | lst f q r => exact .lst (SqL.of q) (Rps.dp ds _ (by simpa [PyData.canLay0] using c) r)
  | .tuple ds, _, c, h => by
    cases h with
    | tup f q r => exact .tup (SqT.of q) (Rps.dp ds _ (by simpa [PyData.canLay0] using c) r)
    | tupK q r => exact .tup (q.sq H) (Rps.dp ds _ (by simpa [PyData.canLay0] using c) r)
  | .dict _, _, c, h => by simp [PyData.canLay0] at c
theorem Rps.dp : ∀ (ds : List PyData) (vs : List V), PyData.canLayAll0 ds = true → Rps K F H vs ds → DpAll K H vs ds
  | [], _, _, h => by cases h; exact .nil
  | d :: ds, _, c, h => by
    have c' : d.canLay0 = true ∧ PyData.canLayAll0 ds = true := by simpa [PyData.canLayAll0] using c
    cases h with
    | cons a b => exact .cons (Rp.dp d _ c'.1 a) (Rps.dp ds _ c'.2 b)
end
theorem Rps.length : ∀ {ds : List PyData} {vs : List V}, Rps K F H vs ds → vs.length = ds.length
  | [], _, h => by cases h; rfl
  | d :: ds, _, h => by
    cases h with
    | cons a b => simp [Rps.length b]
theorem Rps.get : ∀ {ds : List PyData} {vs : List V} {i : Nat} {d : PyData}, Rps K F H vs ds → ds[i]? = some d → ∃ v, vs[i]? = some v ∧ Rp K F H v d
  | [], _, _, _, h, e => by simp at e
  | d :: ds, _, 0, _, h, e => by
    cases h with
    | cons a b => simp at e; subst e; exact ⟨_, rfl, a⟩
  | d :: ds, _, i + 1, _, h, e => by
    cases h with
    | cons a b => exact Rps.get (i := i) b (by simpa using e)
theorem Rps.append : ∀ {ds es : List PyData} {vs ws : List V}, Rps K F H vs ds → Rps K F H ws es → Rps K F H (vs ++ ws) (ds ++ es)
  | [], _, _, _, h, g => by cases h; exact g
  | d :: ds, _, _, _, h, g => by
    cases h with
    | cons a b => exact .cons a (Rps.append b g)
theorem Rps.take : ∀ {ds : List PyData} {vs : List V} (n : Nat), Rps K F H vs ds → Rps K F H (vs.take n) (ds.take n)
  | _, _, 0, _ => by simp; exact .nil
  | [], _, _ + 1, h => by cases h; exact .nil
  | d :: ds, _, n + 1, h => by
    cases h with
    | cons a b => exact .cons a (Rps.take n b)
theorem Rps.drop : ∀ {ds : List PyData} {vs : List V} (n : Nat), Rps K F H vs ds → Rps K F H (vs.drop n) (ds.drop n)
  | _, _, 0, h => by simpa using h
  | [], _, _ + 1, h => by cases h; exact .nil
  | d :: ds, _, n + 1, h => by
    cases h with
    | cons a b => exact Rps.drop n b
theorem Rps.reverse : ∀ {ds : List PyData} {vs : List V}, Rps K F H vs ds → Rps K F H vs.reverse ds.reverse
  | [], _, h => by cases h; exact .nil
  | d :: ds, _, h => by
    cases h with
    | cons a b => rw [List.reverse_cons, List.reverse_cons]; exact Rps.append (Rps.reverse b) (.cons a .nil)
theorem Rps.set : ∀ {ds : List PyData} {vs : List V} {v : V} {d : PyData} (i : Nat), Rp K F H v d → Rps K F H vs ds → Rps K F H (vs.set i v) (ds.set i d)
  | [], _, _, _, _, _, h => by cases h; exact .nil
  | _ :: ds, _, _, _, 0, r, h => by
    cases h with
    | cons a b => exact .cons r b
  | _ :: ds, _, _, _, i + 1, r, h => by
    cases h with
    | cons a b => exact .cons a (Rps.set i r b)
/-- all ints -/
theorem Rps.ints : ∀ {ns : List Int} {vs : List V}, Rps K F H vs (ns.map PyData.int) → vs = ns.map V.int
  | [], _, h => by cases h; rfl
  | n :: ns, _, h => by
    cases h with
    | cons a b => cases a; rw [Rps.ints b]; rfl
theorem Rps.bools : ∀ {ns : List Bool} {vs : List V}, Rps K F H vs (ns.map PyData.bool) → vs = ns.map V.bl
  | [], _, h => by cases h; rfl
  | n :: ns, _, h => by
    cases h with
    | cons a b => cases a; rw [Rps.bools b]; rfl
theorem Rps.of_ints : ∀ {ns : List Int}, Rps K F H (ns.map V.int) (ns.map PyData.int)
  | [] => .nil
  | n :: ns => .cons (.int n) Rps.of_ints

/-- what may be read: in the region, or a list that the frame alone holds -/
inductive RpB (K : PySem.W.Frag) (F : Rg) (H : Hp) : V → PyData → Prop
  | rp {v : V} {d : PyData} : Rp K F H v d → RpB K F H v d
  | own {a : Addr} {xs : List V} {ds : List PyData} : H a = some (.lst xs) → Rps K F H xs ds → RpB K F H (.ref a) (.list ds)
theorem RpB.dp {v : V} {d : PyData} (c : d.canLay0 = true) (h : RpB K F H v d) : Dp K H v d := by
  cases h with
  | rp h => exact Rp.dp _ _ c h
  | own a b => exact .lst (SqL.of a) (Rps.dp _ _ (by simpa [PyData.canLay0] using c) b)
theorem RpB.list {v : V} {ds : List PyData} (h : RpB K F H v (.list ds)) : ∃ a xs, v = .ref a ∧ H a = some (.lst xs) ∧ Rps K F H xs ds := by
  cases h with
  | rp h => cases h with
    | lst f q r => exact ⟨_, _, rfl, q, r⟩
  | own a b => exact ⟨_, _, rfl, a, b⟩
theorem map_scr_inj {ns ms : List Int} (h : ns.map (fun n => (PyData.none, PyData.int n)) = ms.map (fun n => (PyData.none, PyData.int n))) : ns = ms := by
  have := congrArg (List.map fun p : PyData × PyData => match p.2 with | .int i => i | _ => 0) h
  simpa [List.map_map, Function.comp_def] using this
theorem RpB.script {v : V} {ns : List Int} (h : RpB K F H v (scr ns)) : ∃ a, v = .ref a ∧ SqL K H a (ns.map V.int) := by
  cases h with
  | rp h =>
    generalize e : scr ns = d at h
    cases h with
    | scr f q =>
      have e2 := map_scr_inj (PyData.dict.inj e)
      subst e2
      exact ⟨_, rfl, .inl (.inr ⟨_, q⟩)⟩
    | scrK q =>
      have e2 := map_scr_inj (PyData.dict.inj e)
      subst e2
      exact ⟨_, rfl, q.sq H⟩
    | _ => cases e
theorem RpB.tuple {v : V} {ds : List PyData} (h : RpB K F H v (.tuple ds)) : ∃ a xs, v = .ref a ∧ SqT K H a xs ∧ Rps K F H xs ds := by
  cases h with
  | rp h => cases h with
    | tup f q r => exact ⟨_, _, rfl, SqT.of q, r⟩
    | tupK q r => exact ⟨_, _, rfl, q.sq H, r⟩
theorem RpB.int' {v : V} {i : Int} (h : RpB K F H v (.int i)) : v = .int i := by
  cases h with
  | rp h => cases h; rfl
theorem RpB.bool' {v : V} {i : Bool} (h : RpB K F H v (.bool i)) : v = .bl i := by
  cases h with
  | rp h => cases h; rfl
theorem RpB.str' {v : V} {i : Str} (h : RpB K F H v (.str i)) : v = .str i := by
  cases h with
  | rp h => cases h; rfl
theorem RpB.none' {v : V} (h : RpB K F H v .none) : v = .non := by
  cases h with
  | rp h => cases h; rfl

/-! ### steps -/
structure Stp (F : Rg) (H : Hp) (F' : Rg) (H' : Hp) : Prop where
  sub : ∀ a, F a → F' a
  keep : Same H H'
  new : ∀ a, F' a → F a ∨ (H a = none ∧ H' a ≠ none)
theorem Same.some {H1 H2 : Hp} (s : Same H1 H2) {a : Addr} (h : H1 a ≠ none) : H2 a ≠ none := by
  cases e : H1 a with
  | none => exact absurd e h
  | some o => rw [s a o e]; simp
theorem Stp.refl : Stp F H F H := ⟨fun _ h => h, Same.refl _, fun _ h => .inl h⟩
theorem Stp.trans {F1 F2 F3 : Rg} {H1 H2 H3 : Hp} (a : Stp F1 H1 F2 H2) (b : Stp F2 H2 F3 H3) : Stp F1 H1 F3 H3 :=
  ⟨fun x h => b.sub x (a.sub x h), a.keep.trans b.keep, fun x h => (b.new x h).elim (fun q => (a.new x q).imp id fun z => ⟨z.1, Same.some b.keep z.2⟩) fun q => .inr ⟨a.keep.free q.1, q.2⟩⟩
theorem Rp.stp {v : V} {d : PyData} (s : Stp F H F' H') (h : Rp K F H v d) : Rp K F' H' v d := Rp.mono s.sub (fun a _ o => s.keep a o) _ _ h
theorem Rps.stp {v : List V} {d : List PyData} (s : Stp F H F' H') (h : Rps K F H v d) : Rps K F' H' v d := Rps.mono s.sub (fun a _ o => s.keep a o) _ _ h
theorem RpB.stp {v : V} {d : PyData} (s : Stp F H F' H') (h : RpB K F H v d) : RpB K F' H' v d := by
  cases h with
  | rp h => exact .rp (h.stp s)
  | own a b => exact .own (s.keep _ _ a) (b.stp s)
/-- what is kept of the region -/
structure FK (F : Rg) (H : Hp) (F' : Rg) (H' : Hp) : Prop where
  sub : ∀ a, F a → F' a
  keep : ∀ a, F a → ∀ o, H a = some o → H' a = some o
theorem FK.refl : FK F H F H := ⟨fun _ h => h, fun _ _ _ h => h⟩
theorem FK.trans {F1 F2 F3 : Rg} {H1 H2 H3 : Hp} (a : FK F1 H1 F2 H2) (b : FK F2 H2 F3 H3) : FK F1 H1 F3 H3 :=
  ⟨fun x h => b.sub x (a.sub x h), fun x h o e => b.keep x (a.sub x h) o (a.keep x h o e)⟩
theorem Stp.fk (s : Stp F H F' H') : FK F H F' H' := ⟨s.sub, fun a _ o => s.keep a o⟩
theorem Rp.fk {v : V} {d : PyData} (s : FK F H F' H') (h : Rp K F H v d) : Rp K F' H' v d := Rp.mono s.sub s.keep _ _ h
theorem Rps.fk {v : List V} {d : List PyData} (s : FK F H F' H') (h : Rps K F H v d) : Rps K F' H' v d := Rps.mono s.sub s.keep _ _ h
end

/-! ### slots -/
inductive Sl where
  | un
  | val (d : PyData)
  | own (ds : List PyData)
abbrev Ro := List Sl
structure Ste (K : PySem.W.Frag) (B : Hp) (F0 F : Rg) (H : Hp) (σ : L2.St) (ρ : Ro) : Prop where
  same : Same B H
  reg : ∀ a, F a → F0 a ∨ B a = none
  sub : ∀ a, F0 a → F a
  trk : ∀ a, F a → H a ≠ none
  len : σ.length = ρ.length
  val : ∀ (i : Nat) (d : PyData), ρ[i]? = some (.val d) → ∃ v, σ[i]? = some (some v) ∧ Rp K F H v d
  own : ∀ (i : Nat) (ds : List PyData), ρ[i]? = some (.own ds) → ∃ a xs, σ[i]? = some (some (.ref a)) ∧ ¬ F a ∧ B a = none ∧ H a = some (.lst xs) ∧ Rps K F H xs ds
  sep : ∀ (i j : Nat) (ds es : List PyData) (a : Addr), i ≠ j → ρ[i]? = some (.own ds) → ρ[j]? = some (.own es) → σ[i]? = some (some (.ref a)) → σ[j]? ≠ some (some (.ref a))
section
variable {K : PySem.W.Frag} {B : Hp} {F0 F F' : Rg} {H H' : Hp} {σ : L2.St} {ρ : Ro}
theorem Ste.stp (S : Ste K B F0 F H σ ρ) (s : Stp F H F' H') : Ste K B F0 F' H' σ ρ where
  same := S.same.trans s.keep
  reg := fun a h => (s.new a h).elim (fun q => S.reg a q) fun q => .inr (S.same.free q.1)
  sub := fun a h => s.sub a (S.sub a h)
  trk := fun a h => (s.new a h).elim (fun q => Same.some s.keep (S.trk a q)) fun q => q.2
  len := S.len
  val := fun i d e => let ⟨v, h1, h2⟩ := S.val i d e; ⟨v, h1, h2.stp s⟩
  own := fun i ds e => by
    obtain ⟨a, xs, h1, h2, h3, h4, h5⟩ := S.own i ds e
    exact ⟨a, xs, h1, (fun q => (s.new a q).elim h2 fun z => by have z := z.1; rw [h4] at z; cases z), h3, s.keep _ _ h4, h5.stp s⟩
  sep := S.sep
theorem getset_ne {α : Type} {l : List α} {i j : Nat} {x : α} (h : i ≠ j) : (l.set i x)[j]? = l[j]? := List.getElem?_set_ne h
theorem getset_some {α : Type} {l : List α} {i j : Nat} {x y : α} (e : (l.set i x)[j]? = some y) : (i = j ∧ x = y ∧ i < l.length) ∨ (i ≠ j ∧ l[j]? = some y) := by
  by_cases h : i = j
  · subst h
    by_cases hl : i < l.length
    · rw [List.getElem?_set_self hl] at e; cases e; exact .inl ⟨rfl, rfl, hl⟩
    · rw [List.getElem?_eq_none (by simpa using hl)] at e; cases e
  · rw [getset_ne h] at e; exact .inr ⟨h, e⟩
/-- a slot is stored -/
theorem Ste.set_val {i : Nat} {v : V} {d : PyData} (S : Ste K B F0 F H σ ρ) (r : Rp K F H v d) : Ste K B F0 F H (σ.set i (some v)) (ρ.set i (.val d)) where
  same := S.same
  reg := S.reg
  sub := S.sub
  trk := S.trk
  len := by rw [List.length_set, List.length_set]; exact S.len
  val := fun j e h => by
    rcases getset_some h with ⟨rfl, q, hl⟩ | ⟨hn, h⟩
    · cases q; exact ⟨v, List.getElem?_set_self (by rw [S.len]; exact hl), r⟩
    · obtain ⟨w, h1, h2⟩ := S.val j e h
      exact ⟨w, by rw [getset_ne hn]; exact h1, h2⟩
  own := fun j e h => by
    rcases getset_some h with ⟨rfl, q, hl⟩ | ⟨hn, h⟩
    · cases q
    · obtain ⟨a, xs, h1, h2⟩ := S.own j e h
      exact ⟨a, xs, by rw [getset_ne hn]; exact h1, h2⟩
  sep := fun j k ds es a hjk h1 h2 h3 => by
    rcases getset_some h1 with ⟨rfl, q, hl⟩ | ⟨hn, h1⟩
    · cases q
    · rcases getset_some h2 with ⟨rfl, q, hl⟩ | ⟨hn2, h2⟩
      · cases q
      · rw [getset_ne hn] at h3; rw [getset_ne hn2]; exact S.sep j k ds es a hjk h1 h2 h3
/-- a slot is forgotten -/
theorem Ste.set_un {i : Nat} {o : Option V} (S : Ste K B F0 F H σ ρ) : Ste K B F0 F H (σ.set i o) (ρ.set i .un) where
  same := S.same
  reg := S.reg
  sub := S.sub
  trk := S.trk
  len := by rw [List.length_set, List.length_set]; exact S.len
  val := fun j e h => by
    rcases getset_some h with ⟨rfl, q, hl⟩ | ⟨hn, h⟩
    · cases q
    · obtain ⟨w, h1, h2⟩ := S.val j e h
      exact ⟨w, by rw [getset_ne hn]; exact h1, h2⟩
  own := fun j e h => by
    rcases getset_some h with ⟨rfl, q, hl⟩ | ⟨hn, h⟩
    · cases q
    · obtain ⟨a, xs, h1, h2⟩ := S.own j e h
      exact ⟨a, xs, by rw [getset_ne hn]; exact h1, h2⟩
  sep := fun j k ds es a hjk h1 h2 h3 => by
    rcases getset_some h1 with ⟨rfl, q, hl⟩ | ⟨hn, h1⟩
    · cases q
    · rcases getset_some h2 with ⟨rfl, q, hl⟩ | ⟨hn2, h2⟩
      · cases q
      · rw [getset_ne hn] at h3; rw [getset_ne hn2]; exact S.sep j k ds es a hjk h1 h2 h3
/-- a new list of one's own: at a, that no slot has -/
theorem Ste.set_own {i : Nat} {a : Addr} {xs : List V} {ds : List PyData} (S : Ste K B F0 F H σ ρ) (hF : ¬ F a) (hB : B a = none) (hH : H a = some (.lst xs)) (r : Rps K F H xs ds)
    (hn : ∀ (j : Nat) (es : List PyData), j ≠ i → ρ[j]? = some (.own es) → σ[j]? ≠ some (some (.ref a))) : Ste K B F0 F H (σ.set i (some (.ref a))) (ρ.set i (.own ds)) where
  same := S.same
  reg := S.reg
  sub := S.sub
  trk := S.trk
  len := by rw [List.length_set, List.length_set]; exact S.len
  val := fun j e h => by
    rcases getset_some h with ⟨rfl, q, hl⟩ | ⟨hn, h⟩
    · cases q
    · obtain ⟨w, h1, h2⟩ := S.val j e h
      exact ⟨w, by rw [getset_ne hn]; exact h1, h2⟩
  own := fun j e h => by
    rcases getset_some h with ⟨rfl, q, hl⟩ | ⟨hn, h⟩
    · cases q; exact ⟨a, xs, List.getElem?_set_self (by rw [S.len]; exact hl), hF, hB, hH, r⟩
    · obtain ⟨b, xs, h1, h2⟩ := S.own j e h
      exact ⟨b, xs, by rw [getset_ne hn]; exact h1, h2⟩
  sep := fun j k ds es b hjk h1 h2 h3 => by
    rcases getset_some h1 with ⟨rfl, q, hl⟩ | ⟨hn1, h1⟩
    · rcases getset_some h2 with ⟨rfl, q2, hl2⟩ | ⟨hn2, h2⟩
      · exact absurd rfl hjk
      · rw [List.getElem?_set_self (by rw [S.len]; exact hl)] at h3
        cases h3
        rw [getset_ne hn2]
        exact hn k es (Ne.symm hjk) h2
    · rcases getset_some h2 with ⟨rfl, q2, hl2⟩ | ⟨hn2, h2⟩
      · rw [getset_ne hn1] at h3
        rw [List.getElem?_set_self (by rw [S.len]; exact hl2)]
        intro z
        cases z
        exact hn j ds hjk h1 h3
      · rw [getset_ne hn1] at h3; rw [getset_ne hn2]; exact S.sep j k ds es b hjk h1 h2 h3
/-- a list of one's own is written -/
theorem Ste.write {i : Nat} {a : Addr} {ys : List V} {ds es : List PyData} (S : Ste K B F0 F H σ ρ) (e : ρ[i]? = some (.own ds)) (hs : σ[i]? = some (some (.ref a))) (r : Rps K F H ys es) :
    Ste K B F0 F (upd H a (.lst ys)) σ (ρ.set i (.own es)) ∧ FK F H F (upd H a (.lst ys)) := by
  obtain ⟨a', xs, h1, h2, h3, h4, h5⟩ := S.own i ds e
  rw [hs] at h1
  have ea : a = a' := by injection h1 with h1; injection h1 with h1; injection h1
  subst ea
  have fk : FK F H F (upd H a (.lst ys)) := ⟨fun _ h => h, fun b hb o q => by rw [upd_ne (show b ≠ a from fun z => by rw [z] at hb; exact h2 hb)]; exact q⟩
  refine ⟨⟨fun b o q => ?_, S.reg, S.sub, fun b hb => by rw [upd_ne (show b ≠ a from fun z => by rw [z] at hb; exact h2 hb)]; exact S.trk b hb, by rw [List.length_set]; exact S.len, fun j d h => ?_, fun j es' h => ?_, fun j k ds' es' b hjk q1 q2 q3 => ?_⟩, fk⟩
  · have : b ≠ a := fun z => by rw [z, h3] at q; cases q
    rw [upd_ne this]; exact S.same b o q
  · rcases getset_some h with ⟨rfl, q, hl⟩ | ⟨hn, h⟩
    · cases q
    · obtain ⟨w, g1, g2⟩ := S.val j d h
      exact ⟨w, g1, g2.fk fk⟩
  · rcases getset_some h with ⟨rfl, q, hl⟩ | ⟨hn, h⟩
    · cases q; exact ⟨a, ys, hs, h2, h3, upd_same, r.fk fk⟩
    · obtain ⟨b, zs, g1, g2, g3, g4, g5⟩ := S.own j es' h
      have hb : b ≠ a := fun z => by
        rw [z] at g1
        exact S.sep i j ds es' a hn e h hs g1
      exact ⟨b, zs, g1, g2, g3, by rw [upd_ne hb]; exact g4, g5.fk fk⟩
  · have old : ∀ {m : Nat} {zs : List PyData}, (ρ.set i (.own es))[m]? = some (.own zs) → ∃ zs', ρ[m]? = some (.own zs') := fun {m zs} h => by
      rcases getset_some h with ⟨rfl, q, hl⟩ | ⟨hn, h⟩
      · exact ⟨ds, e⟩
      · exact ⟨zs, h⟩
    obtain ⟨z1, q1⟩ := old q1
    obtain ⟨z2, q2⟩ := old q2
    exact S.sep j k z1 z2 b hjk q1 q2 q3
/-- an own list is let go into the region -/
def frz1 (i : Nat) (ρ : Ro) : Ro := match ρ[i]? with
  | some (.own ds) => ρ.set i (.val (.list ds))
  | _ => ρ
def frz : List Nat → Ro → Ro
  | [], ρ => ρ
  | i :: is, ρ => frz is (frz1 i ρ)
theorem Ste.frz1 (S : Ste K B F0 F H σ ρ) (i : Nat) : ∃ F', Ste K B F0 F' H σ (frz1 i ρ) ∧ FK F H F' H := by
  unfold Pf.frz1
  split
  · rename_i ds e
    obtain ⟨a, xs, h1, h2, h3, h4, h5⟩ := S.own i ds e
    have fk : FK F H (fun b => F b ∨ b = a) H := ⟨fun _ h => .inl h, fun _ _ _ q => q⟩
    refine ⟨fun b => F b ∨ b = a, ⟨S.same, fun b hb => ?_, fun b hb => .inl (S.sub b hb), (fun b hb => hb.elim (S.trk b) fun z => by rw [z, h4]; simp), by rw [List.length_set]; exact S.len, fun j d h => ?_, fun j es h => ?_, fun j k ds' es' b hjk q1 q2 q3 => ?_⟩, fk⟩
    · rcases hb with hb | rfl
      · exact S.reg b hb
      · exact .inr h3
    · rcases getset_some h with ⟨rfl, q, hl⟩ | ⟨hn, h⟩
      · cases q; exact ⟨_, h1, .lst (.inr rfl) h4 (h5.fk fk)⟩
      · obtain ⟨w, g1, g2⟩ := S.val j d h
        exact ⟨w, g1, g2.fk fk⟩
    · rcases getset_some h with ⟨rfl, q, hl⟩ | ⟨hn, h⟩
      · cases q
      · obtain ⟨b, zs, g1, g2, g3, g4, g5⟩ := S.own j es h
        refine ⟨b, zs, g1, fun z => ?_, g3, g4, g5.fk fk⟩
        rcases z with z | z
        · exact g2 z
        · rw [z] at g1; exact S.sep i j ds es a hn e h h1 g1
    · rcases getset_some q1 with ⟨rfl, q, hl⟩ | ⟨hn, q1⟩
      · cases q
      · rcases getset_some q2 with ⟨rfl, q, hl⟩ | ⟨hn2, q2⟩
        · cases q
        · exact S.sep j k ds' es' b hjk q1 q2 q3
  · exact ⟨F, S, FK.refl⟩
theorem Ste.frz : ∀ (is : List Nat) {F : Rg} {ρ : Ro}, Ste K B F0 F H σ ρ → ∃ F', Ste K B F0 F' H σ (frz is ρ) ∧ FK F H F' H
  | [], F, ρ, S => ⟨F, S, FK.refl⟩
  | i :: is, F, ρ, S => by
    obtain ⟨F1, S1, k1⟩ := S.frz1 i
    obtain ⟨F2, S2, k2⟩ := Ste.frz is S1
    exact ⟨F2, S2, k1.trans k2⟩
def wipeR (ρ : Ro) : List Nat → Ro
  | [] => ρ
  | i :: is => (wipeR ρ is).set i .un
theorem Ste.wipe (S : Ste K B F0 F H σ ρ) : ∀ is : List Nat, Ste K B F0 F H (wipe σ is) (wipeR ρ is)
  | [] => S
  | i :: is => by unfold L2.wipe wipeR; exact (S.wipe is).set_un
theorem Ste.weak {σ' : L2.St} (S : Ste K B F0 F H σ ρ) (hl : σ'.length = σ.length) (h : ∀ (i : Nat) (x : V), σ[i]? = some (some x) → σ'[i]? = some (some x)) (h2 : ∀ (i : Nat) (x : V), σ'[i]? = some (some x) → σ[i]? = some (some x)) : Ste K B F0 F H σ' ρ where
  same := S.same
  reg := S.reg
  sub := S.sub
  trk := S.trk
  len := hl.trans S.len
  val := fun i d e => let ⟨v, a, b⟩ := S.val i d e; ⟨v, h i v a, b⟩
  own := fun i ds e => let ⟨a, xs, g, r⟩ := S.own i ds e; ⟨a, xs, h i _ g, r⟩
  sep := fun i j ds es a hij e1 e2 e3 e4 => S.sep i j ds es a hij e1 e2 (h2 i _ e3) (h2 j _ e4)
end
end Pf
/-! Pf2: readings by plain functions; expressions. -/
namespace Pf
open PySem PySem.Spec PyProof.Rows L2

/-! ### readings -/
def PostE (mg : Str → Option Value) (W : WX) (σ : L2.St) (H : Hp) {α : Type} (P : α → Prop) : Res α → Prop
  | .ok a => P a
  | .exc c k => ∀ (H' : Hp) (dx C : Addr), Same H H' → H' dx = some (.xd [("at", .int k)]) → mg c = some (.ref C) → W (.ref C) (some dx) σ H'
  | .bad => False
section
variable (K : PySem.W.Frag) (mg : Str → Option Value) (W : WX)
def tE {α : Type} (Rel : Rg → Hp → Rg → Hp → V → α → Prop) (f : Ro → Res α) : TE := fun σ H Q =>
  ∃ (B : Hp) (F0 F : Rg) (ρ : Ro), Ste K B F0 F H σ ρ ∧ PostE mg W σ H (fun a => ∀ F' H' v, Stp F H F' H' → Rel F H F' H' v a → Q v H') (f ρ)
/-- in the region | to be read | a new list | a bool -/
abbrev RF : Rg → Hp → Rg → Hp → V → PyData → Prop := fun _ _ F' H' v d => Rp K F' H' v d
abbrev RB : Rg → Hp → Rg → Hp → V → PyData → Prop := fun _ _ F' H' v d => RpB K F' H' v d
abbrev RN : Rg → Hp → Rg → Hp → V → List PyData → Prop := fun _ H F' H' v ds => ∃ a xs, v = .ref a ∧ H a = none ∧ ¬ F' a ∧ H' a = some (.lst xs) ∧ Rps K F' H' xs ds
abbrev tF (f : Ro → Res PyData) : TE := tE K mg W (RF K) f
abbrev tB (f : Ro → Res PyData) : TE := tE K mg W (RB K) f
abbrev tN (f : Ro → Res (List PyData)) : TE := tE K mg W (RN K) f
def tTs (f : Ro → Res Bool) : TT := fun σ H Q =>
  ∃ (B : Hp) (F0 F : Rg) (ρ : Ro), Ste K B F0 F H σ ρ ∧ PostE mg W σ H (fun b => ∀ F' H', Stp F H F' H' → Q b H') (f ρ)
def tAs (f : Ro → Res (List PyData)) : TA := fun σ H Q =>
  ∃ (B : Hp) (F0 F : Rg) (ρ : Ro), Ste K B F0 F H σ ρ ∧ PostE mg W σ H (fun ds => ∀ F' H' vs, Stp F H F' H' → Rps K F' H' vs ds → Q vs H') (f ρ)
/-- arguments that are only read -/
inductive RpBs (F : Rg) (H : Hp) : List V → List PyData → Prop
  | nil : RpBs F H [] []
  | cons {v : V} {vs : List V} {d : PyData} {ds : List PyData} : RpB K F H v d → RpBs F H vs ds → RpBs F H (v :: vs) (d :: ds)
def tABs (f : Ro → Res (List PyData)) : TA := fun σ H Q =>
  ∃ (B : Hp) (F0 F : Rg) (ρ : Ro), Ste K B F0 F H σ ρ ∧ PostE mg W σ H (fun ds => ∀ F' H' vs, Stp F H F' H' → RpBs K F' H' vs ds → Q vs H') (f ρ)
end
section
variable {K : PySem.W.Frag} {mg : Str → Option Value} {W : WX} {σ : L2.St} {H : Hp} {B : Hp} {F0 F : Rg} {ρ : Ro}
theorem PostE.mono {H1 : Hp} {α : Type} {P : α → Prop} {r : Res α} (s : Same H H1) (h : PostE mg W σ H P r) : PostE mg W σ H1 P r := by
  cases r with
  | ok a => exact h
  | exc c k => exact fun H' dx C q => h H' dx C (s.trans q)
  | bad => exact h
theorem PostE.imp {α : Type} {P P' : α → Prop} {r : Res α} (h : PostE mg W σ H P r) (f : ∀ a, P a → P' a) : PostE mg W σ H P' r := by
  cases r with
  | ok a => exact f a h
  | exc c k => exact h
  | bad => exact h
theorem PostE.ofO {α : Type} {P : α → Prop} {r : Option α} (h : PostE mg W σ H P (ofO r)) : ∃ a, r = some a ∧ P a := by
  cases r with
  | none => exact h.elim
  | some a => exact ⟨a, rfl, h⟩
theorem tE.mk {α β : Type} {Rel : Rg → Hp → Rg → Hp → V → α → Prop} {f : Ro → Res α} {r : α → Res β} {P : β → Prop} {Q : VK} (S : Ste K B F0 F H σ ρ) (p : PostE mg W σ H P ((f ρ).bind r))
    (h : ∀ a F' H' v, f ρ = .ok a → Stp F H F' H' → Rel F H F' H' v a → PostE mg W σ H P (r a) → Q v H') : tE K mg W Rel f σ H Q := by
  refine ⟨B, F0, F, ρ, S, ?_⟩
  cases e : f ρ with
  | ok a => rw [e] at p; exact fun F' H' v s r => h a F' H' v e s r p
  | exc c k => rw [e] at p; exact p
  | bad => rw [e] at p; exact p
theorem tTs.mk {β : Type} {f : Ro → Res Bool} {r : Bool → Res β} {P : β → Prop} {Q : Bool → Hp → Prop} (S : Ste K B F0 F H σ ρ) (p : PostE mg W σ H P ((f ρ).bind r))
    (h : ∀ a F' H', f ρ = .ok a → Stp F H F' H' → PostE mg W σ H P (r a) → Q a H') : tTs K mg W f σ H Q := by
  refine ⟨B, F0, F, ρ, S, ?_⟩
  cases e : f ρ with
  | ok a => rw [e] at p; exact fun F' H' s => h a F' H' e s p
  | exc c k => rw [e] at p; exact p
  | bad => rw [e] at p; exact p
theorem tAs.mk {β : Type} {f : Ro → Res (List PyData)} {r : List PyData → Res β} {P : β → Prop} {Q : List V → Hp → Prop} (S : Ste K B F0 F H σ ρ) (p : PostE mg W σ H P ((f ρ).bind r))
    (h : ∀ a F' H' vs, f ρ = .ok a → Stp F H F' H' → Rps K F' H' vs a → PostE mg W σ H P (r a) → Q vs H') : tAs K mg W f σ H Q := by
  refine ⟨B, F0, F, ρ, S, ?_⟩
  cases e : f ρ with
  | ok a => rw [e] at p; exact fun F' H' v s r => h a F' H' v e s r p
  | exc c k => rw [e] at p; exact p
  | bad => rw [e] at p; exact p
theorem tABs.mk {β : Type} {f : Ro → Res (List PyData)} {r : List PyData → Res β} {P : β → Prop} {Q : List V → Hp → Prop} (S : Ste K B F0 F H σ ρ) (p : PostE mg W σ H P ((f ρ).bind r))
    (h : ∀ a F' H' vs, f ρ = .ok a → Stp F H F' H' → RpBs K F' H' vs a → PostE mg W σ H P (r a) → Q vs H') : tABs K mg W f σ H Q := by
  refine ⟨B, F0, F, ρ, S, ?_⟩
  cases e : f ρ with
  | ok a => rw [e] at p; exact fun F' H' v s r => h a F' H' v e s r p
  | exc c k => rw [e] at p; exact p
  | bad => rw [e] at p; exact p
theorem RpBs.one {vs : List V} {d : PyData} (h : RpBs K F H vs [d]) : ∃ v, vs = [v] ∧ RpB K F H v d := by
  cases h with
  | cons a b => cases b; exact ⟨_, rfl, a⟩
theorem RpBs.two {vs : List V} {d e : PyData} (h : RpBs K F H vs [d, e]) : ∃ v w, vs = [v, w] ∧ RpB K F H v d ∧ RpB K F H w e := by
  cases h with
  | cons a b =>
    cases b with
    | cons a' b => cases b; exact ⟨_, _, rfl, a, a'⟩
/-- a new object in the region -/
theorem Stp.add {a : Addr} {o : HO} (h : H a = none) : Stp F H (fun b => F b ∨ b = a) (upd H a o) :=
  ⟨fun _ q => .inl q, fun b o' q => by rw [upd_ne (ne_of_none q h)]; exact q, fun b q => q.elim .inl fun z => .inr (by rw [z]; exact ⟨h, by rw [upd_same]; simp⟩)⟩
theorem Stp.lay {a : Addr} {o : HO} (h : H a = none) : Stp F H F (upd H a o) :=
  ⟨fun _ q => q, fun b o' q => by rw [upd_ne (ne_of_none q h)]; exact q, fun b q => .inl q⟩
theorem Stp.lay0 : Stp F H F H := Stp.refl
end

section
variable {X : Cx}
theorem _root_.L2.PE.imp {e : Expr} {t t' : TE} (h : PE X e t) (i : ∀ σ H Q, t' σ H Q → t σ H Q) : PE X e t' := ⟨fun pins s σ H Q I q => h.run pins s σ H Q I (i σ H Q q)⟩
theorem _root_.L2.PT.imp {e : Expr} {t t' : TT} (h : PT X e t) (i : ∀ σ H Q, t' σ H Q → t σ H Q) : PT X e t' := ⟨fun pins s σ H Q I q => h.run pins s σ H Q I (i σ H Q q)⟩
theorem _root_.L2.PW.imp {e : Expr} {t t' : TT} (h : PW X e t) (i : ∀ σ H Q, t' σ H Q → t σ H Q) : PW X e t' := ⟨fun w pins s σ H Q I q => h.run w pins s σ H Q I (i σ H Q q)⟩
theorem _root_.L2.PA.imp {e : List Expr} {t t' : TA} (h : PA X e t) (i : ∀ σ H Q, t' σ H Q → t σ H Q) : PA X e t' := ⟨fun pos pins s σ H Q I q => h.run pos pins s σ H Q I (i σ H Q q)⟩
/-- the lengths of lists and tuples have a bound -/
def LenOk (K : PySem.W.Frag) (v : V) (H : Hp) : Prop := ∀ a, v = .ref a → (∀ xs, SqL K H a xs → xs.length ≤ sizeLine) ∧ ∀ xs, SqT K H a xs → xs.length ≤ sizeLine
theorem _root_.L2.PE.len {e : Expr} {t : TE} (h : PE X e t) : PE X e (fun σ H Q => t σ H fun v H' => LenOk X.K v H' → Q v H') := ⟨fun pins s σ H Q I q =>
  thn (h.run pins s σ H _ I q) fun u s' ⟨v, H', I', r, q'⟩ => ⟨v, H', I', r, q' fun a _ => ⟨fun xs hx => (let ⟨_, _, _, z⟩ := I'.list hx; z), fun xs hx => (let ⟨_, _, _, z⟩ := I'.tuple hx; z)⟩⟩⟩
end

/-! ### plain functions of the slots -/
def eVar (i : Nat) : Ro → Res PyData := fun ρ => match ρ[i]? with
  | some (.val d) => .ok d
  | _ => .bad
def eVarB (i : Nat) : Ro → Res PyData := fun ρ => match ρ[i]? with
  | some (.val d) => .ok d
  | some (.own ds) => .ok (.list ds)
  | _ => .bad
def eC (d : PyData) : Ro → Res PyData := fun _ => .ok d
def e1 {α β : Type} (s : α → Option β) (f : Ro → Res α) : Ro → Res β := fun ρ => (f ρ).bind fun d => ofO (s d)
def e2 {α β γ : Type} (s : α → β → Option γ) (f : Ro → Res α) (g : Ro → Res β) : Ro → Res γ := fun ρ => (f ρ).bind fun d => (g ρ).bind fun e => ofO (s d e)
def eB {α β : Type} (f : Ro → Res α) (g : α → Ro → Res β) : Ro → Res β := fun ρ => (f ρ).bind fun d => g d ρ
def eNil : Ro → Res (List PyData) := fun _ => .ok []
def eCons (f : Ro → Res PyData) (g : Ro → Res (List PyData)) : Ro → Res (List PyData) := fun ρ => (f ρ).bind fun d => (g ρ).bind fun ds => .ok (d :: ds)
def eIf {α : Type} (c : Ro → Res Bool) (f g : Ro → Res α) : Ro → Res α := fun ρ => (c ρ).bind fun b => if b = true then f ρ else g ρ
def eAnd (c d : Ro → Res Bool) : Ro → Res Bool := fun ρ => (c ρ).bind fun b => if b = true then d ρ else .ok false
def eOr (c d : Ro → Res Bool) : Ro → Res Bool := fun ρ => (c ρ).bind fun b => if b = true then .ok true else d ρ
def eNot (c : Ro → Res Bool) : Ro → Res Bool := fun ρ => (c ρ).bind fun b => .ok (!b)
def eCall (m : List PyData → Res PyData) (fs : Ro → Res (List PyData)) : Ro → Res PyData := fun ρ => (fs ρ).bind m
def asB : PyData → Option Bool
  | .bool b => some b
  | _ => none
def bD (b : Bool) : Option PyData := some (.bool b)
def listD (ds : List PyData) : Option PyData := some (.list ds)

section
variable {X : Cx} {K : PySem.W.Frag} {mg : Str → Option Value} {W : WX}
variable {pos : Pos}
/-! ### names, constants -/
theorem pf_var (i : Nat) {x : Str} (hN : X.N[i]? = some x := by rfl) (hv : Vis X.env.scope x := by first | exact Or.inl rfl | exact Or.inr (Or.inl rfl) | exact Or.inr (Or.inr rfl)) (hd : (x == ("__debug__" : Str)) = false := by decide) (hcd : (x == ("__classdict__" : Str)) = false := by decide) : PE X (.Name x pos) (tF K mg W (eVar i)) :=
  (pe_var hN hv hd hcd).imp fun σ H Q ⟨B, F0, F, ρ, S, p⟩ => by
    unfold eVar at p
    cases e : ρ[i]? with
    | none => rw [e] at p; exact p.elim
    | some sl =>
      rw [e] at p
      cases sl with
      | un => exact p.elim
      | own ds => exact p.elim
      | val d =>
        obtain ⟨v, h1, h2⟩ := S.val i d e
        exact ⟨v, h1, p F H v Stp.refl h2⟩
theorem pf_varB (i : Nat) {x : Str} (hN : X.N[i]? = some x := by rfl) (hv : Vis X.env.scope x := by first | exact Or.inl rfl | exact Or.inr (Or.inl rfl) | exact Or.inr (Or.inr rfl)) (hd : (x == ("__debug__" : Str)) = false := by decide) (hcd : (x == ("__classdict__" : Str)) = false := by decide) : PE X (.Name x pos) (tB K mg W (eVarB i)) :=
  (pe_var hN hv hd hcd).imp fun σ H Q ⟨B, F0, F, ρ, S, p⟩ => by
    unfold eVarB at p
    cases e : ρ[i]? with
    | none => rw [e] at p; exact p.elim
    | some sl =>
      rw [e] at p
      cases sl with
      | un => exact p.elim
      | own ds =>
        obtain ⟨a, xs, h1, h2, h3, h4, h5⟩ := S.own i ds e
        exact ⟨_, h1, p F H _ Stp.refl (.own h4 h5)⟩
      | val d =>
        obtain ⟨v, h1, h2⟩ := S.val i d e
        exact ⟨v, h1, p F H v Stp.refl (.rp h2)⟩
theorem pf_c {e : Expr} {v : V} {d : PyData} (h : PE X e (tC v)) (r : ∀ F H, Rp K F H v d) : PE X e (tF K mg W (eC d)) :=
  h.imp fun σ H Q ⟨B, F0, F, ρ, S, p⟩ => p F H v Stp.refl (r F H)
theorem pf_int {i j} : PE X (.Constant (.int i) j pos) (tF K mg W (eC (.int i))) := pf_c pe_int fun _ _ => .int i
theorem pf_bl {b j} : PE X (.Constant (.bool b) j pos) (tF K mg W (eC (.bool b))) := pf_c pe_bl fun _ _ => .bl b
theorem pf_non {j} : PE X (.Constant .none j pos) (tF K mg W (eC .none)) := pf_c pe_non fun _ _ => .non
theorem pf_str {x j} : PE X (.Constant (.str x) j pos) (tF K mg W (eC (.str x))) := pf_c pe_str fun _ _ => .str x
theorem pf_gint {x : Str} {i : Int} (hg : Gl X x) (hm : ∃ t, X.mg x = some (.int i t)) (hd : (x == ("__debug__" : Str)) = false := by decide) : PE X (.Name x pos) (tF K mg W (eC (.int i))) := by
  obtain ⟨t, hm⟩ := hm
  exact pf_c (pe_glob (v := .int i) hg hm ⟨t, rfl⟩ hd) fun _ _ => .int i
/-- from the region to what is read -/
theorem pf_b {e : Expr} {f : Ro → Res PyData} (h : PE X e (tF K mg W f)) : PE X e (tB K mg W f) :=
  h.imp fun σ H Q ⟨B, F0, F, ρ, S, p⟩ => ⟨B, F0, F, ρ, S, p.imp fun d q F' H' v s r => q F' H' v s (.rp r)⟩
/-- a new list let into the region -/
theorem pf_n {e : Expr} {f : Ro → Res (List PyData)} (h : PE X e (tN K mg W f)) : PE X e (tF K mg W (e1 listD f)) :=
  h.imp fun σ H Q ⟨B, F0, F, ρ, S, p⟩ => by
    refine tE.mk S p fun ds F' H' v _ st ⟨a, xs, ev, hn, nf, ha, r⟩ q => ?_
    subst ev
    have s2 : Stp F H (fun b => F' b ∨ b = a) H' := ⟨fun b h => .inl (st.sub b h), st.keep, fun b h => h.elim (fun z => st.new b z) fun z => .inr (by rw [z]; exact ⟨hn, by rw [ha]; simp⟩)⟩
    refine q _ H' _ s2 (.lst (.inr rfl) ha (r.fk ⟨fun _ h => .inl h, fun _ _ _ h => h⟩))
/-! ### operators by their meaning -/
def Sem2 (K : PySem.W.Frag) (r : R2) (s : PyData → PyData → Option PyData) : Prop := ∀ (F : Rg) (H : Hp) (x y : V) (d e z : PyData) (Q : VK), RpB K F H x d → RpB K F H y e → s d e = some z →
  (∀ F' H' v, Stp F H F' H' → Rp K F' H' v z → Q v H') → r x y H Q
def Sem1 (K : PySem.W.Frag) (r : V → Hp → VK → Prop) (s : PyData → Option PyData) : Prop := ∀ (F : Rg) (H : Hp) (x : V) (d z : PyData) (Q : VK), RpB K F H x d → s d = some z →
  (∀ F' H' v, Stp F H F' H' → Rp K F' H' v z → Q v H') → r x H Q
theorem tOp_of {r : R2} {s : PyData → PyData → Option PyData} {f g : Ro → Res PyData} (hs : Sem2 K r s) {σ : L2.St} {H : Hp} {Q : VK} (h : tF K mg W (e2 s f g) σ H Q) : tOp r (tB K mg W f) (tB K mg W g) σ H Q := by
  obtain ⟨B, F0, F, ρ, S, p⟩ := h
  refine tE.mk S p fun d F1 H1 x _ st1 rx p => ?_
  refine tE.mk (S.stp st1) (p.mono st1.keep) fun e F2 H2 y _ st2 ry p => ?_
  obtain ⟨z, ez, q⟩ := p.ofO
  exact hs F2 H2 x y d e z Q (rx.stp st2) ry ez fun F' H' v st r => q F' H' v (st1.trans (st2.trans st)) r
theorem pf_op {op : Operator} {r : R2} {s : PyData → PyData → Option PyData} {a b : Expr} {f g : Ro → Res PyData} (ho : OpR X (binaryOp op) r) (hs : Sem2 K r s) (ha : PE X a (tB K mg W f)) (hb : PE X b (tB K mg W g)) :
    PE X (.BinOp a op b pos) (tF K mg W (e2 s f g)) := (pe_op ho ha hb).imp fun _ _ _ h => tOp_of hs h
theorem pf_cmp {op : CmpOp} {r : R2} {s : PyData → PyData → Option PyData} {a b : Expr} {f g : Ro → Res PyData} (ho : OpR X (compareOp op) r) (hs : Sem2 K r s) (ha : PE X a (tB K mg W f)) (hb : PE X b (tB K mg W g)) (hm : behindInMarks op b = false) :
    PE X (.Compare a [op] [b] pos) (tF K mg W (e2 s f g)) := (pe_cmpR ho ha hb hm).imp fun _ _ _ h => tOp_of hs h
theorem pf_un {op : UnaryOp} {r : V → Hp → VK → Prop} {s : PyData → Option PyData} {a : Expr} {f : Ro → Res PyData} (ho : UnR X (unaryOp op) r) (hs : Sem1 K r s) (ha : PE X a (tB K mg W f)) : PE X (.UnaryOp op a pos) (tF K mg W (e1 s f)) :=
  (pe_un ho ha).imp fun σ H Q ⟨B, F0, F, ρ, S, p⟩ => by
    refine tE.mk S p fun d F1 H1 x _ st1 rx p => ?_
    obtain ⟨z, ez, q⟩ := p.ofO
    exact hs F1 H1 x d z Q rx ez fun F' H' v st r => q F' H' v (st1.trans st) r
/-- x[i] -/
theorem pf_ix {r : R2} {s : PyData → PyData → Option PyData} {a b : Expr} {f g : Ro → Res PyData} (hr : IxR X r) (hs : Sem2 K r s) (ha : PE X a (tB K mg W f)) (hb : PE X b (tB K mg W g)) (hp : PlainIx b := by exact fun _ _ => rfl) :
    PE X (.Subscript a b pos) (tF K mg W (e2 s f g)) := (pe_ix hr ha hb hp).imp fun _ _ _ h => tOp_of hs h
/-! ### tests -/
theorem pf_tv {e : Expr} {f : Ro → Res PyData} (h : PE X e (tB K mg W f)) (he : ∀ whole, isTrue e X.env whole = (do let v ← whole; standAt e.pos; holding [v] (truthy v)) := by intro _; rfl) : PT X e (tTs K mg W (e1 asB f)) :=
  (pt_val h he).imp fun σ H Q ⟨B, F0, F, ρ, S, p⟩ => by
    refine tE.mk S p fun d F1 H1 x _ st1 rx p => ?_
    obtain ⟨b, eb, q⟩ := p.ofO
    cases d with
    | bool c => cases eb; exact ⟨_, rx.bool', q F1 H1 st1⟩
    | _ => cases eb
theorem pf_tcmp {op : CmpOp} {r : R2} {s : PyData → PyData → Option PyData} {a b : Expr} {f g : Ro → Res PyData} (ho : OpR X (compareOp op) r) (hs : Sem2 K r s) (ha : PE X a (tB K mg W f)) (hb : PE X b (tB K mg W g)) (hm : behindInMarks op b = false) :
    PT X (.Compare a [op] [b] pos) (tTs K mg W (e1 asB (e2 s f g))) :=
  (pt_cmpR ho ha hb hm).imp fun σ H Q ⟨B, F0, F, ρ, S, p⟩ => by
    refine tOp_of hs ⟨B, F0, F, ρ, S, ?_⟩
    unfold e1 at p
    cases e : e2 s f g ρ with
    | ok d =>
      rw [e] at p
      obtain ⟨b, eb, q⟩ := p.ofO
      cases d with
      | bool c => cases eb; exact fun F' H' v st r => ⟨_, (RpB.rp r).bool', q F' H' st⟩
      | _ => cases eb
    | exc c k => rw [e] at p; exact p
    | bad => rw [e] at p; exact p
theorem pf_not {a : Expr} {c : Ro → Res Bool} (h : PT X a (tTs K mg W c)) : PT X (.UnaryOp .Not a pos) (tTs K mg W (eNot c)) :=
  (pt_not h).imp fun σ H Q ⟨B, F0, F, ρ, S, p⟩ => tTs.mk S p fun b F1 H1 _ st q => q F1 H1 st
theorem pf_and1 {a : Expr} {c : Ro → Res Bool} (h : PT X a (tTs K mg W c)) : PW X (.BoolOp .And [a] pos) (tTs K mg W c) := pw_and1 h
theorem pf_or1 {a : Expr} {c : Ro → Res Bool} (h : PT X a (tTs K mg W c)) : PW X (.BoolOp .Or [a] pos) (tTs K mg W c) := pw_or1 h
theorem pf_and {a b : Expr} {rest : List Expr} {c d : Ro → Res Bool} (h : PT X a (tTs K mg W c)) (h2 : PW X (.BoolOp .And (b :: rest) pos) (tTs K mg W d)) : PW X (.BoolOp .And (a :: b :: rest) pos) (tTs K mg W (eAnd c d)) :=
  (pw_and h h2).imp fun σ H Q ⟨B, F0, F, ρ, S, p⟩ => tTs.mk S p fun x F1 H1 _ st q => by
    cases x with
    | true =>
      rw [if_pos rfl]
      exact ⟨B, F0, F1, ρ, S.stp st, (q.mono st.keep).imp fun z h F' H' st2 => h F' H' (st.trans st2)⟩
    | false => rw [if_neg (by decide)]; exact q F1 H1 st
theorem pf_or {a b : Expr} {rest : List Expr} {c d : Ro → Res Bool} (h : PT X a (tTs K mg W c)) (h2 : PW X (.BoolOp .Or (b :: rest) pos) (tTs K mg W d)) : PW X (.BoolOp .Or (a :: b :: rest) pos) (tTs K mg W (eOr c d)) :=
  (pw_or h h2).imp fun σ H Q ⟨B, F0, F, ρ, S, p⟩ => tTs.mk S p fun x F1 H1 _ st q => by
    cases x with
    | false =>
      rw [if_neg (by decide)]
      exact ⟨B, F0, F1, ρ, S.stp st, (q.mono st.keep).imp fun z h F' H' st2 => h F' H' (st.trans st2)⟩
    | true => rw [if_pos rfl]; exact q F1 H1 st
/-! ### and, or, not as values of bools -/
def eBool (c : Ro → Res Bool) : Ro → Res PyData := fun ρ => (c ρ).bind fun b => .ok (.bool b)
abbrev eTb (f : Ro → Res PyData) : Ro → Res Bool := e1 asB f
theorem pf_v1 {op} {a : Expr} {f : Ro → Res PyData} (h : PE X a (tB K mg W f)) : PE X (.BoolOp op [a] pos) (tF K mg W (eBool (eTb f))) :=
  (pe_one h).imp fun σ H Q ⟨B, F0, F, ρ, S, p⟩ => by
    refine ⟨B, F0, F, ρ, S, ?_⟩
    unfold eBool eTb e1 at p
    cases e : f ρ with
    | ok d =>
      rw [e] at p
      cases d with
      | bool c => exact fun F' H' v st r => p F' H' v st (by cases r.bool'; exact .bl c)
      | _ => exact p.elim
    | exc c k => rw [e] at p; exact p
    | bad => rw [e] at p; exact p
theorem pf_vand {a b : Expr} {rest : List Expr} {f : Ro → Res PyData} {d : Ro → Res Bool} (h : PE X a (tB K mg W f)) (h2 : PE X (.BoolOp .And (b :: rest) pos) (tF K mg W (eBool d))) : PE X (.BoolOp .And (a :: b :: rest) pos) (tF K mg W (eBool (eAnd (eTb f) d))) :=
  (pe_and h h2).imp fun σ H Q ⟨B, F0, F, ρ, S, p⟩ => by
    refine ⟨B, F0, F, ρ, S, ?_⟩
    unfold eBool eAnd eTb e1 at p
    cases e : f ρ with
    | ok z =>
      rw [e] at p
      cases z with
      | bool c =>
        intro F' H' v st r
        refine ⟨c, r.bool', ?_⟩
        cases c with
        | true =>
          rw [if_pos rfl]
          refine ⟨B, F0, F', ρ, S.stp st, ?_⟩
          have p2 : PostE mg W σ H _ ((d ρ).bind fun b => .ok (PyData.bool b)) := p
          exact (p2.mono st.keep).imp fun z h F2 H2 v2 st2 r2 => h F2 H2 v2 (st.trans st2) r2
        | false =>
          rw [if_neg (by decide)]
          have p2 : PostE mg W σ H _ (Res.ok (PyData.bool false)) := p
          exact p2 F' H' (.bl false) st (.bl false)
      | _ => exact p.elim
    | exc c k => rw [e] at p; exact p
    | bad => rw [e] at p; exact p
theorem pf_vor {a b : Expr} {rest : List Expr} {f : Ro → Res PyData} {d : Ro → Res Bool} (h : PE X a (tB K mg W f)) (h2 : PE X (.BoolOp .Or (b :: rest) pos) (tF K mg W (eBool d))) : PE X (.BoolOp .Or (a :: b :: rest) pos) (tF K mg W (eBool (eOr (eTb f) d))) :=
  (pe_or h h2).imp fun σ H Q ⟨B, F0, F, ρ, S, p⟩ => by
    refine ⟨B, F0, F, ρ, S, ?_⟩
    unfold eBool eOr eTb e1 at p
    cases e : f ρ with
    | ok z =>
      rw [e] at p
      cases z with
      | bool c =>
        intro F' H' v st r
        refine ⟨c, r.bool', ?_⟩
        cases c with
        | false =>
          rw [if_neg (by decide)]
          refine ⟨B, F0, F', ρ, S.stp st, ?_⟩
          have p2 : PostE mg W σ H _ ((d ρ).bind fun b => .ok (PyData.bool b)) := p
          exact (p2.mono st.keep).imp fun z h F2 H2 v2 st2 r2 => h F2 H2 v2 (st.trans st2) r2
        | true =>
          rw [if_pos rfl]
          have p2 : PostE mg W σ H _ (Res.ok (PyData.bool true)) := p
          exact p2 F' H' (.bl true) st (.bl true)
      | _ => exact p.elim
    | exc c k => rw [e] at p; exact p
    | bad => rw [e] at p; exact p
theorem pf_vnot {a : Expr} {f : Ro → Res PyData} (h : PE X a (tB K mg W f)) : PE X (.UnaryOp .Not a pos) (tF K mg W (eBool (eNot (eTb f)))) :=
  (pe_not h).imp fun σ H Q ⟨B, F0, F, ρ, S, p⟩ => by
    refine ⟨B, F0, F, ρ, S, ?_⟩
    unfold eBool eNot eTb e1 at p
    cases e : f ρ with
    | ok z =>
      rw [e] at p
      cases z with
      | bool c => exact fun F' H' v st r => ⟨c, r.bool', p F' H' _ st (.bl _)⟩
      | _ => exact p.elim
    | exc c k => rw [e] at p; exact p
    | bad => rw [e] at p; exact p
/-- a if c else b -/
theorem pf_ifE {Rl : Rg → Hp → Rg → Hp → V → PyData → Prop} {c a b : Expr} {t : Ro → Res Bool} {f g : Ro → Res PyData} (hR : Rl = RF K ∨ Rl = RB K) (hc : PT X c (tTs K mg W t)) (ha : PE X a (tE K mg W Rl f)) (hb : PE X b (tE K mg W Rl g)) : PE X (.IfExp c a b pos) (tE K mg W Rl (eIf t f g)) :=
  (pe_ifExp hc ha hb).imp fun σ H Q ⟨B, F0, F, ρ, S, p⟩ => tTs.mk S p fun x F1 H1 _ st q => by
    have fin : ∀ {f : Ro → Res PyData}, PostE mg W σ H (fun a => ∀ F' H' v, Stp F H F' H' → Rl F H F' H' v a → Q v H') (f ρ) → tE K mg W Rl f σ H1 Q := fun {f} q =>
      ⟨B, F0, F1, ρ, S.stp st, (q.mono st.keep).imp fun d h F' H' v st2 r => h F' H' v (st.trans st2) (by rcases hR with rfl | rfl <;> exact r)⟩
    cases x with
    | true => rw [if_pos rfl] at q ⊢; exact fin q
    | false => rw [if_neg (by decide)] at q ⊢; exact fin q
/-! ### lists of expressions -/
theorem pf_nil : PA X [] (tAs K mg W eNil) := pa_nil.imp fun σ H Q ⟨B, F0, F, ρ, S, p⟩ => p F H [] Stp.refl .nil
theorem pf_cons {e : Expr} {es : List Expr} {f : Ro → Res PyData} {g : Ro → Res (List PyData)} (h : PE X e (tF K mg W f)) (h2 : PA X es (tAs K mg W g)) (hs : starEach (e :: es) X.env = (false, eval e X.env) :: starEach es X.env := by rfl) :
    PA X (e :: es) (tAs K mg W (eCons f g)) := (pa_cons h h2 hs).imp fun σ H Q ⟨B, F0, F, ρ, S, p⟩ => by
  refine tE.mk S p fun d F1 H1 x _ st1 rx p => ?_
  refine tAs.mk (S.stp st1) (p.mono st1.keep) fun ds F2 H2 xs _ st2 rxs q => ?_
  exact q F2 H2 (x :: xs) (st1.trans st2) (.cons (rx.stp st2) rxs)
theorem pf_nilB : PA X [] (tABs K mg W eNil) := pa_nil.imp fun σ H Q ⟨B, F0, F, ρ, S, p⟩ => p F H [] Stp.refl .nil
theorem RpBs.stp {F F' : Rg} {H H' : Hp} {vs : List V} {ds : List PyData} (s : Stp F H F' H') (h : RpBs K F H vs ds) : RpBs K F' H' vs ds := by
  induction h with
  | nil => exact .nil
  | cons a _ ih => exact .cons (a.stp s) ih
theorem pf_consB {e : Expr} {es : List Expr} {f : Ro → Res PyData} {g : Ro → Res (List PyData)} (h : PE X e (tB K mg W f)) (h2 : PA X es (tABs K mg W g)) (hs : starEach (e :: es) X.env = (false, eval e X.env) :: starEach es X.env := by rfl) :
    PA X (e :: es) (tABs K mg W (eCons f g)) := (pa_cons h h2 hs).imp fun σ H Q ⟨B, F0, F, ρ, S, p⟩ => by
  refine tE.mk S p fun d F1 H1 x _ st1 rx p => ?_
  refine tABs.mk (S.stp st1) (p.mono st1.keep) fun ds F2 H2 xs _ st2 rxs q => ?_
  exact q F2 H2 (x :: xs) (st1.trans st2) (.cons (rx.stp st2) rxs)
/-- (a, b, ..) -/
def tupD (ds : List PyData) : Option PyData := some (.tuple ds)
theorem pf_tup {es : List Expr} {x1} {g : Ro → Res (List PyData)} (h : PA X es (tAs K mg W g)) (hl : es.length ≤ 64 := by decide) (hg : ∀ ρ ds, g ρ = .ok ds → ds.length = es.length) : PE X (.Tuple es x1 pos) (tF K mg W (e1 tupD g)) :=
  (pe_tup h).imp fun σ H Q ⟨B, F0, F, ρ, S, p⟩ => by
    refine tAs.mk S p fun ds F1 H1 xs e st rxs q => ⟨?_, fun a ha => ?_⟩
    · rw [rxs.length, hg ρ ds e, sizeLine_eq]; omega
    · exact q _ _ _ (st.trans (Stp.add ha)) (.tup (.inr rfl) upd_same (rxs.stp (Stp.add ha)))
theorem pf_lst {es : List Expr} {g : Ro → Res (List PyData)} (h : PA X es (tAs K mg W g)) (hl : es.length ≤ 64 := by decide) (hg : ∀ ρ ds, g ρ = .ok ds → ds.length = es.length) : PE X (.List es pos) (tN K mg W g) :=
  (pe_lst h).imp fun σ H Q ⟨B, F0, F, ρ, S, p⟩ => by
    have p' : PostE mg W σ H (fun a => ∀ F' H' v, Stp F H F' H' → RN K F H F' H' v a → Q v H') ((g ρ).bind fun a => .ok a) := by
      cases e : g ρ with
      | _ => rw [e] at p; exact p
    refine tAs.mk S p' fun ds F1 H1 xs e st rxs q => ⟨?_, fun a ha => ?_⟩
    · rw [rxs.length, hg ρ ds e, sizeLine_eq]; omega
    · have hn : H a = none := st.keep.free ha
      refine q F1 _ _ (st.trans (Stp.lay ha)) ⟨a, xs, rfl, hn, fun z => (S.stp st).trk a z ha, upd_same, rxs.stp (Stp.lay ha)⟩
theorem len_nil : ∀ (ρ : Ro) ds, eNil ρ = .ok ds → ds.length = 0 := fun ρ ds h => by cases h; rfl
theorem len_cons {f : Ro → Res PyData} {g : Ro → Res (List PyData)} {n : Nat} (h : ∀ ρ ds, g ρ = .ok ds → ds.length = n) : ∀ (ρ : Ro) ds, eCons f g ρ = .ok ds → ds.length = n + 1 := fun ρ ds e => by
  unfold eCons at e
  cases e1 : f ρ with
  | ok d =>
    rw [e1] at e
    cases e2 : g ρ with
    | ok r => rw [e2] at e; cases e; rw [List.length_cons, h ρ r e2]
    | exc c k => rw [e2] at e; cases e
    | bad => rw [e2] at e; cases e
  | exc c k => rw [e1] at e; cases e
  | bad => rw [e1] at e; cases e
end
end Pf
/-! Pf3: operators, comparisons, subscripts, built-ins. -/
namespace Pf
open PySem PySem.Spec PyProof.Rows L2

/-! ### arithmetic -/
def addD : PyData → PyData → Option PyData
  | .int a, .int b => some (.int (a + b))
  | .str a, .str b => if a.length + b.length ≤ 16777216 then some (.str (a ++ b)) else none
  | .list xs, .list ys => if xs.length + ys.length ≤ 16777216 then some (.list (xs ++ ys)) else none
  | .tuple xs, .tuple ys => if xs ≠ [] ∧ ys ≠ [] ∧ xs.length + ys.length ≤ 16777216 then some (.tuple (xs ++ ys)) else none
  | _, _ => none
def subD : PyData → PyData → Option PyData
  | .int a, .int b => some (.int (a - b))
  | _, _ => none
def okMul (a b : Int) : Bool := decide (a.natAbs.log2 + b.natAbs.log2 < 1000000)
def mulD : PyData → PyData → Option PyData
  | .int a, .int b => if okMul a b = true then some (.int (a * b)) else none
  | .list xs, .int k => if 0 ≤ k ∧ k < 16777216 ∧ xs.length * k.toNat ≤ 16777216 then some (.list (List.replicate k.toNat xs).flatten) else none
  | _, _ => none
def divD : PyData → PyData → Option PyData
  | .int a, .int b => if 0 < b ∧ b.natAbs.log2 < 9000 then some (.int (a / b)) else none
  | _, _ => none
def modD : PyData → PyData → Option PyData
  | .int a, .int b => if 0 < b then some (.int (a % b)) else none
  | _, _ => none
def powD : PyData → PyData → Option PyData
  | .int a, .int b => if 0 ≤ b ∧ b ≤ 1000000 ∧ a.natAbs < 2 ^ 64 then some (.int (a ^ b.toNat)) else none
  | _, _ => none
def negD : PyData → Option PyData
  | .int a => some (.int (-a))
  | _ => none
section
variable {K : PySem.W.Frag} {F : Rg} {H : Hp}
theorem Rp.newL {a : Addr} {xs : List V} {ds : List PyData} (h : H a = none) (r : Rps K F H xs ds) : Rp K (fun b => F b ∨ b = a) (upd H a (.lst xs)) (.ref a) (.list ds) := .lst (.inr rfl) upd_same (r.stp (Stp.add h))
theorem Rp.newT {a : Addr} {xs : List V} {ds : List PyData} (h : H a = none) (r : Rps K F H xs ds) : Rp K (fun b => F b ∨ b = a) (upd H a (.tup xs)) (.ref a) (.tuple ds) := .tup (.inr rfl) upd_same (r.stp (Stp.add h))
theorem Rps.ne {xs : List V} {ds : List PyData} (r : Rps K F H xs ds) (h : ds ≠ []) : xs ≠ [] := by
  intro z
  subst z
  cases r
  exact h rfl
theorem Rps.flat {xs : List V} {ds : List PyData} (r : Rps K F H xs ds) : ∀ k : Nat, Rps K F H (List.replicate k xs).flatten (List.replicate k ds).flatten
  | 0 => .nil
  | k + 1 => by
    rw [List.replicate_succ, List.replicate_succ, List.flatten_cons, List.flatten_cons]
    exact Rps.append r (Rps.flat r k)
end
section
variable {X : Cx} {K : PySem.W.Frag} {mg : Str → Option Value} {W : WX} {pos : Pos}
def rAddA (K : PySem.W.Frag) : R2 := fun x y H Q => (rI0 fun i j => .int (i + j)) x y H Q ∨ (∃ i j, x = .str i ∧ y = .str j ∧ i.length + j.length ≤ sizeLine ∧ Q (.str (i ++ j)) H) ∨ rCat x y H Q ∨ rCatT K x y H Q
theorem opr_add : OpR X (binaryOp .Add) (rAddA X.K) := op_add.or (op_add_str.or (op_cat.or op_catT))
theorem sem_add : Sem2 K (rAddA K) addD := by
  intro F H x y d e z Q rx ry hs h
  unfold addD at hs
  split at hs
  · cases hs
    exact .inl ⟨_, _, rx.int', ry.int', h F H _ Stp.refl (.int _)⟩
  · split at hs
    · rename_i hl
      cases hs
      exact .inr (.inl ⟨_, _, rx.str', ry.str', by rw [sizeLine_eq]; exact hl, h F H _ Stp.refl (.str _)⟩)
    · cases hs
  · split at hs
    · rename_i hl
      cases hs
      obtain ⟨a, xs, rfl, ha, r1⟩ := rx.list
      obtain ⟨b, ys, rfl, hb, r2⟩ := ry.list
      refine .inr (.inr (.inl ⟨a, b, xs, ys, rfl, rfl, ha, hb, by rw [r1.length, r2.length, sizeLine_eq]; exact hl, fun p hp => h _ _ _ (Stp.add hp) (Rp.newL hp (r1.append r2))⟩))
    · cases hs
  · split at hs
    · rename_i hl
      cases hs
      obtain ⟨a, xs, rfl, ha, r1⟩ := rx.tuple
      obtain ⟨b, ys, rfl, hb, r2⟩ := ry.tuple
      refine .inr (.inr (.inr ⟨a, b, xs, ys, rfl, rfl, ha, hb, r1.ne hl.1, by rw [r1.length, r2.length, sizeLine_eq]; exact hl.2.2, fun z => absurd z (r2.ne hl.2.1), fun _ p hp => h _ _ _ (Stp.add hp) (Rp.newT hp (r1.append r2))⟩))
    · cases hs
  · cases hs
theorem sem_sub : Sem2 K (rI0 fun i j => .int (i - j)) subD := by
  intro F H x y d e z Q rx ry hs h
  unfold subD at hs
  split at hs
  · cases hs
    exact ⟨_, _, rx.int', ry.int', h F H _ Stp.refl (.int _)⟩
  · cases hs
def rMulA : R2 := fun x y H Q => (rI CMulW fun i j => .int (i * j)) x y H Q ∨ rRep x y H Q
theorem opr_mul : OpR X (binaryOp .Mult) rMulA := op_mulW.or op_rep
theorem sem_mul : Sem2 K rMulA mulD := by
  intro F H x y d e z Q rx ry hs h
  unfold mulD at hs
  split at hs
  · split at hs
    · rename_i hl
      cases hs
      exact .inl ⟨_, _, rx.int', ry.int', (by unfold CMulW; unfold okMul at hl; exact of_decide_eq_true hl), h F H _ Stp.refl (.int _)⟩
    · cases hs
  · split at hs
    · rename_i hl
      cases hs
      obtain ⟨a, xs, rfl, ha, r1⟩ := rx.list
      refine .inr ⟨a, _, xs, rfl, ry.int', ha, by omega, by omega, by rw [r1.length, sizeLine_eq]; exact hl.2.2, fun p hp => h _ _ _ (Stp.add hp) (Rp.newL hp (r1.flat _))⟩
    · cases hs
  · cases hs
theorem sem_div : Sem2 K (rI CDivW fun i j => .int (i / j)) divD := by
  intro F H x y d e z Q rx ry hs h
  unfold divD at hs
  split at hs
  · split at hs
    · rename_i hl
      cases hs
      exact ⟨_, _, rx.int', ry.int', hl, h F H _ Stp.refl (.int _)⟩
    · cases hs
  · cases hs
theorem sem_mod : Sem2 K (rI (fun _ j => 0 < j) fun i j => .int (i % j)) modD := by
  intro F H x y d e z Q rx ry hs h
  unfold modD at hs
  split at hs
  · split at hs
    · rename_i hl
      cases hs
      exact ⟨_, _, rx.int', ry.int', hl, h F H _ Stp.refl (.int _)⟩
    · cases hs
  · cases hs
theorem sem_pow : Sem2 K (rI CPow fun i j => .int (i ^ j.toNat)) powD := by
  intro F H x y d e z Q rx ry hs h
  unfold powD at hs
  split at hs
  · split at hs
    · rename_i hl
      cases hs
      exact ⟨_, _, rx.int', ry.int', hl, h F H _ Stp.refl (.int _)⟩
    · cases hs
  · cases hs
theorem sem_neg : Sem1 K (rU fun i => .int (-i)) negD := by
  intro F H x d z Q rx hs h
  unfold negD at hs
  split at hs
  · cases hs
    exact ⟨_, rx.int', h F H _ Stp.refl (.int _)⟩
  · cases hs
theorem pf_add {a b : Expr} {f g : Ro → Res PyData} (hK : X.K = K) (ha : PE X a (tB K mg W f)) (hb : PE X b (tB K mg W g)) : PE X (.BinOp a .Add b pos) (tF K mg W (e2 addD f g)) := pf_op opr_add (hK ▸ sem_add) ha hb
theorem pf_sub {a b : Expr} {f g : Ro → Res PyData} (ha : PE X a (tB K mg W f)) (hb : PE X b (tB K mg W g)) : PE X (.BinOp a .Sub b pos) (tF K mg W (e2 subD f g)) := pf_op op_sub sem_sub ha hb
theorem pf_mul {a b : Expr} {f g : Ro → Res PyData} (ha : PE X a (tB K mg W f)) (hb : PE X b (tB K mg W g)) : PE X (.BinOp a .Mult b pos) (tF K mg W (e2 mulD f g)) := pf_op opr_mul sem_mul ha hb
theorem pf_div {a b : Expr} {f g : Ro → Res PyData} (ha : PE X a (tB K mg W f)) (hb : PE X b (tB K mg W g)) : PE X (.BinOp a .FloorDiv b pos) (tF K mg W (e2 divD f g)) := pf_op op_fdivW sem_div ha hb
theorem pf_mod {a b : Expr} {f g : Ro → Res PyData} (ha : PE X a (tB K mg W f)) (hb : PE X b (tB K mg W g)) : PE X (.BinOp a .Mod b pos) (tF K mg W (e2 modD f g)) := pf_op op_mod sem_mod ha hb
theorem pf_pow {a b : Expr} {f g : Ro → Res PyData} (ha : PE X a (tB K mg W f)) (hb : PE X b (tB K mg W g)) : PE X (.BinOp a .Pow b pos) (tF K mg W (e2 powD f g)) := pf_op op_pow sem_pow ha hb
theorem pf_neg {a : Expr} {f : Ro → Res PyData} (ha : PE X a (tB K mg W f)) : PE X (.UnaryOp .USub a pos) (tF K mg W (e1 negD f)) := pf_un un_neg sem_neg ha
/-- a + b of lists, the result one's own -/
def listL : PyData → Option (List PyData)
  | .list ds => some ds
  | _ => none
def catL : PyData → PyData → Option (List PyData)
  | .list xs, .list ys => if xs.length + ys.length ≤ 16777216 then some (xs ++ ys) else none
  | _, _ => none
theorem pf_catN {a b : Expr} {f g : Ro → Res PyData} (ha : PE X a (tB K mg W f)) (hb : PE X b (tB K mg W g)) : PE X (.BinOp a .Add b pos) (tN K mg W (e2 catL f g)) :=
  (pe_op op_cat ha hb).imp fun σ H Q ⟨B, F0, F, ρ, S, p⟩ => by
    refine tE.mk S p fun d F1 H1 x _ st1 rx p => ?_
    refine tE.mk (S.stp st1) (p.mono st1.keep) fun e F2 H2 y _ st2 ry p => ?_
    obtain ⟨z, ez, q⟩ := p.ofO
    unfold catL at ez
    split at ez
    · split at ez
      · rename_i hl
        cases ez
        obtain ⟨a, xs, rfl, ha, r1⟩ := (rx.stp st2).list
        obtain ⟨b, ys, rfl, hb, r2⟩ := ry.list
        refine ⟨a, b, xs, ys, rfl, rfl, ha, hb, by rw [r1.length, r2.length, sizeLine_eq]; exact hl, fun p hp => ?_⟩
        have s12 := st1.trans st2
        exact q _ _ _ (s12.trans (Stp.lay hp)) ⟨p, _, rfl, s12.keep.free hp, fun z => (S.stp s12).trk p z hp, upd_same, (r1.append r2).stp (Stp.lay hp)⟩
      · cases ez
    · cases ez
def repL : PyData → PyData → Option (List PyData)
  | .list xs, .int k => if 0 ≤ k ∧ k < 16777216 ∧ xs.length * k.toNat ≤ 16777216 then some (List.replicate k.toNat xs).flatten else none
  | _, _ => none
theorem pf_repN {a b : Expr} {f g : Ro → Res PyData} (ha : PE X a (tB K mg W f)) (hb : PE X b (tB K mg W g)) : PE X (.BinOp a .Mult b pos) (tN K mg W (e2 repL f g)) :=
  (pe_op op_rep ha hb).imp fun σ H Q ⟨B, F0, F, ρ, S, p⟩ => by
    refine tE.mk S p fun d F1 H1 x _ st1 rx p => ?_
    refine tE.mk (S.stp st1) (p.mono st1.keep) fun e F2 H2 y _ st2 ry p => ?_
    obtain ⟨z, ez, q⟩ := p.ofO
    unfold repL at ez
    split at ez
    · split at ez
      · rename_i hl
        cases ez
        obtain ⟨a, xs, rfl, ha, r1⟩ := (rx.stp st2).list
        refine ⟨a, _, xs, rfl, ry.int', ha, by omega, by omega, by rw [r1.length, sizeLine_eq]; exact hl.2.2, fun p hp => ?_⟩
        have s12 := st1.trans st2
        exact q _ _ _ (s12.trans (Stp.lay hp)) ⟨p, _, rfl, s12.keep.free hp, fun z => (S.stp s12).trk p z hp, upd_same, (r1.flat _).stp (Stp.lay hp)⟩
      · cases ez
    · cases ez

/-! ### comparisons -/
def ltD : PyData → PyData → Option PyData
  | .int a, .int b => some (.bool (decide (a < b)))
  | _, _ => none
def leD : PyData → PyData → Option PyData
  | .int a, .int b => some (.bool (decide (a ≤ b)))
  | _, _ => none
def gtD : PyData → PyData → Option PyData
  | .int a, .int b => some (.bool (decide (b < a)))
  | _, _ => none
def geD : PyData → PyData → Option PyData
  | .int a, .int b => some (.bool (decide (b ≤ a)))
  | _, _ => none
def eqD (d e : PyData) : Option PyData := if SeqAt.shaped d = true ∧ SeqAt.shaped e = true then some (.bool (PyData.eqv d e)) else none
def neD (d e : PyData) : Option PyData := if SeqAt.shaped d = true ∧ SeqAt.shaped e = true then some (.bool (!PyData.eqv d e)) else none
def isNo : PyData → Bool
  | .none => true
  | _ => false
def isD : PyData → PyData → Option PyData
  | d, .none => some (.bool (isNo d))
  | .bool a, .bool b => some (.bool (decide (a = b)))
  | _, _ => none
def isnD : PyData → PyData → Option PyData
  | d, .none => some (.bool (!isNo d))
  | .bool a, .bool b => some (.bool (!decide (a = b)))
  | _, _ => none
theorem sem_lt : Sem2 K (rI0 fun i j => .bl (decide (i < j))) ltD := by
  intro F H x y d e z Q rx ry hs h
  unfold ltD at hs
  split at hs
  · cases hs; exact ⟨_, _, rx.int', ry.int', h F H _ Stp.refl (.bl _)⟩
  · cases hs
theorem sem_le : Sem2 K (rI0 fun i j => .bl (decide (i ≤ j))) leD := by
  intro F H x y d e z Q rx ry hs h
  unfold leD at hs
  split at hs
  · cases hs; exact ⟨_, _, rx.int', ry.int', h F H _ Stp.refl (.bl _)⟩
  · cases hs
theorem sem_gt : Sem2 K (rI0 fun i j => .bl (decide (j < i))) gtD := by
  intro F H x y d e z Q rx ry hs h
  unfold gtD at hs
  split at hs
  · cases hs; exact ⟨_, _, rx.int', ry.int', h F H _ Stp.refl (.bl _)⟩
  · cases hs
theorem sem_ge : Sem2 K (rI0 fun i j => .bl (decide (j ≤ i))) geD := by
  intro F H x y d e z Q rx ry hs h
  unfold geD at hs
  split at hs
  · cases hs; exact ⟨_, _, rx.int', ry.int', h F H _ Stp.refl (.bl _)⟩
  · cases hs
theorem sem_eq : Sem2 K (rEqD K) eqD := by
  intro F H x y d e z Q rx ry hs h
  unfold eqD at hs
  split at hs
  · rename_i hl
    cases hs
    exact ⟨d, e, rx.dp (SeqAt.canLay_of_shaped hl.1), ry.dp (SeqAt.canLay_of_shaped hl.2), hl.1, hl.2, h F H _ Stp.refl (.bl _)⟩
  · cases hs
theorem sem_ne : Sem2 K (rNeD K) neD := by
  intro F H x y d e z Q rx ry hs h
  unfold neD at hs
  split at hs
  · rename_i hl
    cases hs
    exact ⟨d, e, rx.dp (SeqAt.canLay_of_shaped hl.1), ry.dp (SeqAt.canLay_of_shaped hl.2), hl.1, hl.2, h F H _ Stp.refl (.bl _)⟩
  · cases hs
def rIsA : R2 := fun x y H Q => (y = .non ∧ Q (.bl (decide (x = .non))) H) ∨ rIsB x y H Q
def rIsnA : R2 := fun x y H Q => (y = .non ∧ Q (.bl (!decide (x = .non))) H) ∨ rNotB x y H Q
theorem opr_is : OpR X (compareOp .Is) rIsA := op_isN.or op_isBl
theorem opr_isn : OpR X (compareOp .IsNot) rIsnA := op_notN.or op_notBl
theorem RpB.isN {F : Rg} {H : Hp} {v : V} {d : PyData} (h : RpB K F H v d) : decide (v = .non) = isNo d := by
  cases h with
  | rp h => cases h <;> rfl
  | own a b => rfl
theorem RpB.isN' {F : Rg} {H : Hp} {v : V} {d : PyData} (h : RpB K F H v d) : (!decide (v = .non)) = !isNo d := by
  cases h with
  | rp h => cases h <;> rfl
  | own a b => rfl
theorem sem_is : Sem2 K rIsA isD := by
  intro F H x y d e z Q rx ry hs h
  unfold isD at hs
  split at hs
  · cases hs
    refine .inl ⟨ry.none', ?_⟩
    rw [rx.isN]
    exact h F H _ Stp.refl (.bl _)
  · cases hs
    exact .inr ⟨_, _, rx.bool', ry.bool', h F H _ Stp.refl (.bl _)⟩
  · cases hs
theorem sem_isn : Sem2 K rIsnA isnD := by
  intro F H x y d e z Q rx ry hs h
  unfold isnD at hs
  split at hs
  · cases hs
    refine .inl ⟨ry.none', ?_⟩
    rw [rx.isN']
    exact h F H _ Stp.refl (.bl _)
  · cases hs
    exact .inr ⟨_, _, rx.bool', ry.bool', h F H _ Stp.refl (.bl _)⟩
  · cases hs
/-- a rule of a comparison, by its operator -/
structure CmpR (X : Cx) (K : PySem.W.Frag) (op : CmpOp) (s : PyData → PyData → Option PyData) : Prop where
  r : ∃ r : R2, OpR X (compareOp op) r ∧ Sem2 K r s
theorem cm_lt : CmpR X K .Lt ltD := ⟨_, op_lt, sem_lt⟩
theorem cm_le : CmpR X K .LtE leD := ⟨_, op_le, sem_le⟩
theorem cm_gt : CmpR X K .Gt gtD := ⟨_, op_gt, sem_gt⟩
theorem cm_ge : CmpR X K .GtE geD := ⟨_, op_ge, sem_ge⟩
theorem cm_eq (hK : X.K = K) (hu : X.A.units + 64 < cLine) : CmpR X K .Eq eqD := ⟨_, op_eqD hu, hK ▸ sem_eq⟩
theorem cm_ne (hK : X.K = K) (hu : X.A.units + 64 < cLine) : CmpR X K .NotEq neD := ⟨_, op_neD hu, hK ▸ sem_ne⟩
theorem cm_is : CmpR X K .Is isD := ⟨_, opr_is, sem_is⟩
theorem cm_isn : CmpR X K .IsNot isnD := ⟨_, opr_isn, sem_isn⟩
theorem pf_cmpV {op : CmpOp} {s : PyData → PyData → Option PyData} {a b : Expr} {f g : Ro → Res PyData} (c : CmpR X K op s) (ha : PE X a (tB K mg W f)) (hb : PE X b (tB K mg W g)) (hm : behindInMarks op b = false := by first | exact nomark _ | rfl) : PE X (.Compare a [op] [b] pos) (tF K mg W (e2 s f g)) := by
  obtain ⟨r, ho, hs⟩ := c.r
  exact pf_cmp ho hs ha hb hm
theorem pf_cmpT {op : CmpOp} {s : PyData → PyData → Option PyData} {a b : Expr} {f g : Ro → Res PyData} (c : CmpR X K op s) (ha : PE X a (tB K mg W f)) (hb : PE X b (tB K mg W g)) (hm : behindInMarks op b = false := by first | exact nomark _ | rfl) : PT X (.Compare a [op] [b] pos) (tTs K mg W (eTb (e2 s f g))) := by
  obtain ⟨r, ho, hs⟩ := c.r
  exact pf_tcmp ho hs ha hb hm
/-- a op b op' c -/
def eChain (s s' : PyData → PyData → Option PyData) (f g h : Ro → Res PyData) : Ro → Res Bool := fun ρ => (f ρ).bind fun d => (g ρ).bind fun e => (ofO ((s d e).bind asB)).bind fun k => if k = true then (h ρ).bind fun u => ofO ((s' e u).bind asB) else .ok false
theorem RpB.asB {F : Rg} {H : Hp} {v : V} {d : PyData} {b : Bool} (h : RpB K F H v d) (e : asB d = some b) : v = .bl b := by
  cases d with
  | bool c => cases e; exact h.bool'
  | _ => cases e
theorem pf_chainT {op op' : CmpOp} {s s' : PyData → PyData → Option PyData} {a b c : Expr} {f g h : Ro → Res PyData} (c1 : CmpR X K op s) (c2 : CmpR X K op' s') (ha : PE X a (tB K mg W f)) (hb : PE X b (tB K mg W g)) (hc : PE X c (tB K mg W h)) (hm : lastMarks [op, op'] [b, c] = false := by with_unfolding_all rfl) :
    PT X (.Compare a [op, op'] [b, c] pos) (tTs K mg W (eChain s s' f g h)) := by
  obtain ⟨r, ho, hs⟩ := c1.r
  obtain ⟨r', ho', hs'⟩ := c2.r
  refine (pt_chain ho ho' ha hb hc hm).imp fun σ H Q ⟨B, F0, F, ρ, S, p⟩ => ?_
  refine tE.mk S p fun d F1 H1 x _ st1 rx p => ?_
  refine tE.mk (S.stp st1) (p.mono st1.keep) fun e F2 H2 y _ st2 ry p => ?_
  have s12 := st1.trans st2
  cases e1 : s d e with
  | none => rw [e1] at p; exact p.elim
  | some z =>
    rw [e1] at p
    refine hs F2 H2 x y d e z _ (rx.stp st2) ry e1 fun F3 H3 v st3 rv => ?_
    have p2 : PostE mg W σ H1 _ ((ofO (asB z)).bind fun k => if k = true then (h ρ).bind fun u => ofO ((s' e u).bind asB) else .ok false) := p
    cases ez : asB z with
    | none => rw [ez] at p2; exact p2.elim
    | some k =>
      rw [ez] at p2
      refine ⟨k, (RpB.rp rv).asB ez, ?_⟩
      cases k with
      | false =>
        rw [if_neg (by decide)]
        have p3 : PostE mg W σ H1 _ (Res.ok false) := p2
        exact ⟨false, rfl, p3 F3 H3 (s12.trans st3)⟩
      | true =>
        rw [if_pos rfl]
        have p3 : PostE mg W σ H1 _ ((h ρ).bind fun u => ofO ((s' e u).bind asB)) := p2
        refine tE.mk (S.stp (s12.trans st3)) (p3.mono (st2.trans st3).keep) fun u F4 H4 w _ st4 rw' p4 => ?_
        obtain ⟨b, eb, q⟩ := p4.ofO
        cases eu : s' e u with
        | none => rw [eu] at eb; cases eb
        | some z2 =>
          rw [eu] at eb
          exact hs' F4 H4 y w e u z2 _ (ry.stp (st3.trans st4)) rw' eu fun F5 H5 v5 st5 rv5 => ⟨b, (RpB.rp rv5).asB eb, q F5 H5 (s12.trans (st3.trans (st4.trans st5)))⟩
theorem pf_chainV {op op' : CmpOp} {s s' : PyData → PyData → Option PyData} {a b c : Expr} {f g h : Ro → Res PyData} (c1 : CmpR X K op s) (c2 : CmpR X K op' s') (ha : PE X a (tB K mg W f)) (hb : PE X b (tB K mg W g)) (hc : PE X c (tB K mg W h)) (hm : lastMarks [op, op'] [b, c] = false := by with_unfolding_all rfl) :
    PE X (.Compare a [op, op'] [b, c] pos) (tF K mg W (eBool (eChain s s' f g h))) := by
  obtain ⟨r, ho, hs⟩ := c1.r
  obtain ⟨r', ho', hs'⟩ := c2.r
  refine (pe_chain ho ho' ha hb hc hm).imp fun σ H Q ⟨B, F0, F, ρ, S, p0⟩ => ?_
  have p : PostE mg W σ H (fun b => ∀ F' H' v, Stp F H F' H' → Rp K F' H' v (.bool b) → Q v H') (eChain s s' f g h ρ) := by
    unfold eBool at p0
    cases e : eChain s s' f g h ρ with
    | ok b => rw [e] at p0; exact p0
    | exc c k => rw [e] at p0; exact p0
    | bad => rw [e] at p0; exact p0
  refine tE.mk S p fun d F1 H1 x _ st1 rx p => ?_
  refine tE.mk (S.stp st1) (p.mono st1.keep) fun e F2 H2 y _ st2 ry p => ?_
  have s12 := st1.trans st2
  cases e1 : s d e with
  | none => rw [e1] at p; exact p.elim
  | some z =>
    rw [e1] at p
    refine hs F2 H2 x y d e z _ (rx.stp st2) ry e1 fun F3 H3 v st3 rv => ?_
    have p2 : PostE mg W σ H1 _ ((ofO (asB z)).bind fun k => if k = true then (h ρ).bind fun u => ofO ((s' e u).bind asB) else .ok false) := p
    cases ez : asB z with
    | none => rw [ez] at p2; exact p2.elim
    | some k =>
      rw [ez] at p2
      refine ⟨k, (RpB.rp rv).asB ez, ?_⟩
      cases k with
      | false =>
        rw [if_neg (by decide)]
        have p3 : PostE mg W σ H1 _ (Res.ok false) := p2
        exact p3 F3 H3 _ (s12.trans st3) (.bl false)
      | true =>
        rw [if_pos rfl]
        have p3 : PostE mg W σ H1 _ ((h ρ).bind fun u => ofO ((s' e u).bind asB)) := p2
        refine tE.mk (S.stp (s12.trans st3)) (p3.mono (st2.trans st3).keep) fun u F4 H4 w _ st4 rw' p4 => ?_
        obtain ⟨b, eb, q⟩ := p4.ofO
        cases eu : s' e u with
        | none => rw [eu] at eb; cases eb
        | some z2 =>
          rw [eu] at eb
          refine hs' F4 H4 y w e u z2 _ (ry.stp (st3.trans st4)) rw' eu fun F5 H5 v5 st5 rv5 => ?_
          cases z2 with
          | bool b2 =>
            cases eb
            exact q F5 H5 v5 (s12.trans (st3.trans (st4.trans st5))) rv5
          | _ => cases eb

/-! ### subscripts -/
def ixD : PyData → PyData → Option PyData
  | .list xs, .int i => atI xs i
  | .tuple xs, .int i => atI xs i
  | .dict ps, .int i => atI (ps.map (·.2)) i
  | _, _ => none
theorem ixN_lt {n : Nat} {i : Int} {j : Nat} (h : ixN n i = some j) : j < n := (ixN_seq h).2.1
theorem Rps.at {F : Rg} {H : Hp} {xs : List V} {ds : List PyData} {i : Int} {d : PyData} (r : Rps K F H xs ds) (h : atI ds i = some d) : ∃ v, atI xs i = some v ∧ Rp K F H v d := by
  unfold atI at h ⊢
  rw [r.length]
  cases e : ixN ds.length i with
  | none => rw [e] at h; cases h
  | some j =>
    rw [e] at h
    obtain ⟨v, h1, h2⟩ := r.get (i := j) h
    exact ⟨v, h1, h2⟩
theorem sem_ix : Sem2 K (rIx K) ixD := by
  intro F H x y d e z Q rx ry hs h
  unfold ixD at hs
  split at hs
  · obtain ⟨a, xs, rfl, ha, r⟩ := rx.list
    obtain ⟨v, h1, h2⟩ := r.at hs
    exact .inl ⟨a, xs, _, v, rfl, ry.int', SqL.of ha, h1, h F H v Stp.refl h2⟩
  · obtain ⟨a, xs, rfl, ha, r⟩ := rx.tuple
    obtain ⟨v, h1, h2⟩ := r.at hs
    exact .inr (.inl ⟨a, xs, _, v, rfl, ry.int', ha, h1, h F H v Stp.refl h2⟩)
  · rename_i ps i
    cases rx with
    | rp rx =>
      have key : ∀ {a : Addr} {ns : List Int}, SqL K H a (ns.map V.int) → atI ((ns.map fun n => (PyData.none, PyData.int n)).map (·.2)) i = some z → rIx K (.ref a) y H Q := fun {a ns} sq hs => by
        have e2 : (ns.map fun n => (PyData.none, PyData.int n)).map (·.2) = ns.map PyData.int := by simp [List.map_map, Function.comp_def]
        rw [e2] at hs
        obtain ⟨v, h1, h2⟩ := (Rps.of_ints (K := K) (F := F) (H := H) (ns := ns)).at hs
        exact .inl ⟨a, _, _, v, rfl, ry.int', sq, h1, h F H v Stp.refl h2⟩
      cases rx with
      | scr f q => exact key (.inl (.inr ⟨_, q⟩)) hs
      | scrK q => exact key (q.sq H) hs
  · cases hs
theorem pf_sub1 {a b : Expr} {f g : Ro → Res PyData} (hK : X.K = K) (ha : PE X a (tB K mg W f)) (hb : PE X b (tB K mg W g)) (hp : PlainIx b := by exact fun _ _ => rfl) : PE X (.Subscript a b pos) (tF K mg W (e2 ixD f g)) := pf_ix ix_seq (hK ▸ sem_ix) ha hb hp
/-- slices -/
def cutD (xs : List PyData) (lo hi : Option Int) : List PyData := (xs.drop (HT.sIx xs.length 0 lo)).take (HT.sIx xs.length xs.length hi - HT.sIx xs.length 0 lo)
def eNone : Ro → Res (Option Int) := fun _ => .ok none
def asI : PyData → Option (Option Int)
  | .int i => some (some i)
  | _ => none
def tPs (K : PySem.W.Frag) (mg : Str → Option Value) (W : WX) (f : Ro → Res (Option Int)) : TO := fun σ H Q =>
  ∃ (B : Hp) (F0 F : Rg) (ρ : Ro), Ste K B F0 F H σ ρ ∧ PostE mg W σ H (fun o => ∀ F' H', Stp F H F' H' → Q o H') (f ρ)
theorem _root_.L2.PO.imp {e : Option Expr} {t t' : TO} (h : PO X e t) (i : ∀ σ H Q, t' σ H Q → t σ H Q) : PO X e t' := ⟨fun pins s σ H Q I q => h.run pins s σ H Q I (i σ H Q q)⟩
theorem pf_pnone : PO X none (tPs K mg W eNone) := po_none.imp fun σ H Q ⟨B, F0, F, ρ, S, p⟩ => p F H Stp.refl
theorem pf_psome {e : Expr} {f : Ro → Res PyData} (h : PE X e (tB K mg W f)) : PO X (some e) (tPs K mg W (e1 asI f)) := (po_some h).imp fun σ H Q ⟨B, F0, F, ρ, S, p⟩ => by
  refine tE.mk S p fun d F1 H1 x _ st rx p => ?_
  obtain ⟨o, eo, q⟩ := p.ofO
  cases d with
  | int i => cases eo; exact ⟨i, rx.int', q F1 H1 st⟩
  | _ => cases eo
theorem tPs.mk {σ : L2.St} {H : Hp} {B : Hp} {F0 F : Rg} {ρ : Ro} {β : Type} {f : Ro → Res (Option Int)} {r : Option Int → Res β} {P : β → Prop} {Q : Option Int → Hp → Prop} (S : Ste K B F0 F H σ ρ) (p : PostE mg W σ H P ((f ρ).bind r))
    (h : ∀ a F' H', f ρ = .ok a → Stp F H F' H' → PostE mg W σ H P (r a) → Q a H') : tPs K mg W f σ H Q := by
  refine ⟨B, F0, F, ρ, S, ?_⟩
  cases e : f ρ with
  | ok a => rw [e] at p; exact fun F' H' s => h a F' H' e s p
  | exc c k => rw [e] at p; exact p
  | bad => rw [e] at p; exact p
def eSl {β : Type} (s : PyData → Option Int → Option Int → Option β) (f : Ro → Res PyData) (l u : Ro → Res (Option Int)) : Ro → Res β := fun ρ => (f ρ).bind fun d => (l ρ).bind fun i => (u ρ).bind fun j => ofO (s d i j)
def slL (d : PyData) (i j : Option Int) : Option (List PyData) := match d with
  | .list xs => some (cutD xs i j)
  | _ => none
def slT (d : PyData) (i j : Option Int) : Option PyData := match d with
  | .list xs => some (.list (cutD xs i j))
  | .tuple xs => if HT.sIx xs.length 0 i = 0 ∧ HT.sIx xs.length xs.length j = xs.length then none else some (.tuple (cutD xs i j))
  | _ => none
theorem Rps.cut {F : Rg} {H : Hp} {xs : List V} {ds : List PyData} (r : Rps K F H xs ds) (i j : Option Int) : Rps K F H (cutV xs i j) (cutD ds i j) := by
  unfold cutV cutD
  rw [r.length]
  exact Rps.take _ (Rps.drop _ r)
theorem pf_slN {e : Expr} {lo hi : Option Expr} {p2 : Pos} {f : Ro → Res PyData} {l u : Ro → Res (Option Int)} (he : PE X e (tB K mg W f)) (hl : PO X lo (tPs K mg W l)) (hu : PO X hi (tPs K mg W u)) : PE X (.Subscript e (.Slice lo hi none p2) pos) (tN K mg W (eSl slL f l u)) :=
  (pe_slice sl_list he hl hu).imp fun σ H Q ⟨B, F0, F, ρ, S, p⟩ => by
    refine tE.mk S p fun d F1 H1 x _ st1 rx p => ?_
    refine tPs.mk (S.stp st1) (p.mono st1.keep) fun i F2 H2 _ st2 p => ?_
    refine tPs.mk (S.stp (st1.trans st2)) (p.mono st2.keep) fun j F3 H3 _ st3 p => ?_
    obtain ⟨z, ez, q⟩ := p.ofO
    have s13 := st1.trans (st2.trans st3)
    cases d with
    | list ds =>
      cases ez
      obtain ⟨a, xs, rfl, ha, r⟩ := (rx.stp (st2.trans st3)).list
      exact ⟨a, xs, rfl, SqL.of ha, fun p hp => q _ _ _ (s13.trans (Stp.lay hp)) ⟨p, _, rfl, s13.keep.free hp, fun z => (S.stp s13).trk p z hp, upd_same, (r.cut i j).stp (Stp.lay hp)⟩⟩
    | _ => cases ez
theorem pf_slF {e : Expr} {lo hi : Option Expr} {p2 : Pos} {f : Ro → Res PyData} {l u : Ro → Res (Option Int)} (hK : X.K = K) (he : PE X e (tB K mg W f)) (hl : PO X lo (tPs K mg W l)) (hu : PO X hi (tPs K mg W u)) : PE X (.Subscript e (.Slice lo hi none p2) pos) (tF K mg W (eSl slT f l u)) :=
  (pe_slice (sl_list.or sl_tup) he hl hu).imp fun σ H Q ⟨B, F0, F, ρ, S, p⟩ => by
    refine tE.mk S p fun d F1 H1 x _ st1 rx p => ?_
    refine tPs.mk (S.stp st1) (p.mono st1.keep) fun i F2 H2 _ st2 p => ?_
    refine tPs.mk (S.stp (st1.trans st2)) (p.mono st2.keep) fun j F3 H3 _ st3 p => ?_
    obtain ⟨z, ez, q⟩ := p.ofO
    have s13 := st1.trans (st2.trans st3)
    cases d with
    | list ds =>
      cases ez
      obtain ⟨a, xs, rfl, ha, r⟩ := (rx.stp (st2.trans st3)).list
      exact .inl ⟨a, xs, rfl, SqL.of ha, fun p hp => q _ _ _ (s13.trans (Stp.add hp)) (Rp.newL hp (r.cut i j))⟩
    | tuple ds =>
      unfold slT at ez
      dsimp only at ez
      split at ez
      · cases ez
      · rename_i hn
        cases ez
        obtain ⟨a, xs, rfl, ha, r⟩ := (rx.stp (st2.trans st3)).tuple
        exact .inr ⟨a, xs, rfl, hK ▸ ha, by rw [r.length]; exact hn, fun p hp => q _ _ _ (s13.trans (Stp.add hp)) (Rp.newT hp (r.cut i j))⟩
    | _ => cases ez
/-- xs[::-1] -/
def revL : PyData → Option (List PyData)
  | .list xs => some xs.reverse
  | _ => none
theorem pf_revN {e : Expr} {k : Nat} {p1 p2 p3 : Pos} {f : Ro → Res PyData} (he : PE X e (tB K mg W f)) : PE X (.Subscript e (.Slice none none (some (.UnaryOp .USub (.Constant (.int 1) k p1) p2)) p3) pos) (tN K mg W (e1 revL f)) :=
  (pe_revL he).imp fun σ H Q ⟨B, F0, F, ρ, S, p⟩ => by
    refine tE.mk S p fun d F1 H1 x _ st rx p => ?_
    obtain ⟨z, ez, q⟩ := p.ofO
    cases d with
    | list ds =>
      cases ez
      obtain ⟨a, xs, rfl, ha, r⟩ := rx.list
      exact ⟨a, xs, rfl, SqL.of ha, fun p hp => q _ _ _ (st.trans (Stp.lay hp)) ⟨p, _, rfl, st.keep.free hp, fun z => (S.stp st).trk p z hp, upd_same, r.reverse.stp (Stp.lay hp)⟩⟩
    | _ => cases ez

/-! ### built-ins -/
def SemC (K : PySem.W.Frag) (r : List V → Hp → VK → Prop) (s : List PyData → Option PyData) : Prop := ∀ (F : Rg) (H : Hp) (vs : List V) (ds : List PyData) (z : PyData) (Q : VK), RpBs K F H vs ds → s ds = some z →
  (∀ F' H' v, Stp F H F' H' → Rp K F' H' v z → Q v H') → r vs H Q
theorem tCB_of {r : List V → Hp → VK → Prop} {s : List PyData → Option PyData} {g : Ro → Res (List PyData)} (hs : SemC K r s) {σ : L2.St} {H : Hp} {Q : VK} (h : tF K mg W (e1 s g) σ H Q) : tCB r (tABs K mg W g) σ H Q := by
  obtain ⟨B, F0, F, ρ, S, p⟩ := h
  refine tABs.mk S p fun ds F1 H1 vs _ st rs p => ?_
  obtain ⟨z, ez, q⟩ := p.ofO
  exact hs F1 H1 vs ds z Q rs ez fun F' H' v st2 r => q F' H' v (st.trans st2) r
theorem pf_callB {id : String} {x : Str} {p : Pos} {r : List V → Hp → VK → Prop} {s : List PyData → Option PyData} {e : Expr} {es : List Expr} {g : Ro → Res (List PyData)} (hc : CallR X (.builtin id) r) (hs : SemC K r s) (hg : Gl X x) (hm : X.mg x = none) (hv : bootBuiltins x = some (.builtin id)) (ha : PA X (e :: es) (tABs K mg W g))
    (hn : x ≠ "__name__" := by decide) (hdb : (x == ("__debug__" : Str)) = false := by decide) (he : starEach (e :: es) X.env = (false, eval e X.env) :: starEach es X.env := by rfl) (hpl : (backTo pos (starEach es X.env)).any (·.1) = false := by rfl) :
    PE X (.Call (.Name x p) (e :: es) [] pos) (tF K mg W (e1 s g)) := (pe_callB hc hg hm hv ha hn hdb he hpl).imp fun _ _ _ h => tCB_of hs h
theorem pf_callTy {T : String} {x : Str} {p : Pos} {r : List V → Hp → VK → Prop} {s : List PyData → Option PyData} {e : Expr} {es : List Expr} {g : Ro → Res (List PyData)} (hc : CallR X (.type T) r) (hs : SemC K r s) (hg : Gl X x) (hm : X.mg x = none) (hv : bootBuiltins x = some (.type T)) (ha : PA X (e :: es) (tABs K mg W g))
    (hn : x ≠ "__name__" := by decide) (hdb : (x == ("__debug__" : Str)) = false := by decide) (he : starEach (e :: es) X.env = (false, eval e X.env) :: starEach es X.env := by rfl) (hpl : (backTo pos (starEach es X.env)).any (·.1) = false := by rfl) :
    PE X (.Call (.Name x p) (e :: es) [] pos) (tF K mg W (e1 s g)) := (pe_callTy hc hg hm hv ha hn hdb he hpl).imp fun _ _ _ h => tCB_of hs h
/-- the result a new list of one's own -/
def SemCN (K : PySem.W.Frag) (r : List V → Hp → VK → Prop) (s : List PyData → Option (List PyData)) : Prop := ∀ (F : Rg) (H : Hp) (vs : List V) (ds z : List PyData) (Q : VK), RpBs K F H vs ds → s ds = some z →
  (∀ p xs, H p = none → Rps K F H xs z → Q (.ref p) (upd H p (.lst xs))) → r vs H Q
theorem tCBN_of {r : List V → Hp → VK → Prop} {s : List PyData → Option (List PyData)} {g : Ro → Res (List PyData)} (hs : SemCN K r s) {σ : L2.St} {H : Hp} {Q : VK} (h : tN K mg W (e1 s g) σ H Q) : tCB r (tABs K mg W g) σ H Q := by
  obtain ⟨B, F0, F, ρ, S, p⟩ := h
  refine tABs.mk S p fun ds F1 H1 vs _ st rs p => ?_
  obtain ⟨z, ez, q⟩ := p.ofO
  exact hs F1 H1 vs ds z Q rs ez fun p xs hp r => q F1 _ _ (st.trans (Stp.lay hp)) ⟨p, xs, rfl, st.keep.free hp, fun z => (S.stp st).trk p z hp, upd_same, r.stp (Stp.lay hp)⟩
theorem pf_callBN {id : String} {x : Str} {p : Pos} {r : List V → Hp → VK → Prop} {s : List PyData → Option (List PyData)} {e : Expr} {es : List Expr} {g : Ro → Res (List PyData)} (hc : CallR X (.builtin id) r) (hs : SemCN K r s) (hg : Gl X x) (hm : X.mg x = none) (hv : bootBuiltins x = some (.builtin id)) (ha : PA X (e :: es) (tABs K mg W g))
    (hn : x ≠ "__name__" := by decide) (hdb : (x == ("__debug__" : Str)) = false := by decide) (he : starEach (e :: es) X.env = (false, eval e X.env) :: starEach es X.env := by rfl) (hpl : (backTo pos (starEach es X.env)).any (·.1) = false := by rfl) :
    PE X (.Call (.Name x p) (e :: es) [] pos) (tN K mg W (e1 s g)) := (pe_callB hc hg hm hv ha hn hdb he hpl).imp fun _ _ _ h => tCBN_of hs h
theorem pf_callTyN {T : String} {x : Str} {p : Pos} {r : List V → Hp → VK → Prop} {s : List PyData → Option (List PyData)} {e : Expr} {es : List Expr} {g : Ro → Res (List PyData)} (hc : CallR X (.type T) r) (hs : SemCN K r s) (hg : Gl X x) (hm : X.mg x = none) (hv : bootBuiltins x = some (.type T)) (ha : PA X (e :: es) (tABs K mg W g))
    (hn : x ≠ "__name__" := by decide) (hdb : (x == ("__debug__" : Str)) = false := by decide) (he : starEach (e :: es) X.env = (false, eval e X.env) :: starEach es X.env := by rfl) (hpl : (backTo pos (starEach es X.env)).any (·.1) = false := by rfl) :
    PE X (.Call (.Name x p) (e :: es) [] pos) (tN K mg W (e1 s g)) := (pe_callTy hc hg hm hv ha hn hdb he hpl).imp fun _ _ _ h => tCBN_of hs h
def lenD : List PyData → Option PyData
  | [.list xs] => some (.int xs.length)
  | [.tuple xs] => some (.int xs.length)
  | [.dict ps] => some (.int ps.length)
  | _ => none
theorem sem_len : SemC K (fun xs H Q => ∃ x n, xs = [x] ∧ LenV K x H n ∧ Q (.int n) H) lenD := by
  intro F H vs ds z Q rs hs h
  unfold lenD at hs
  split at hs
  · cases hs
    obtain ⟨v, rfl, rv⟩ := rs.one
    obtain ⟨a, xs, rfl, ha, r⟩ := rv.list
    refine ⟨_, xs.length, rfl, .inl ⟨xs, SqL.of ha, rfl⟩, ?_⟩
    rw [r.length]
    exact h F H _ Stp.refl (.int _)
  · cases hs
    obtain ⟨v, rfl, rv⟩ := rs.one
    obtain ⟨a, xs, rfl, ha, r⟩ := rv.tuple
    refine ⟨_, xs.length, rfl, .inr ⟨xs, ha, rfl⟩, ?_⟩
    rw [r.length]
    exact h F H _ Stp.refl (.int _)
  · cases hs
    obtain ⟨v, rfl, rv⟩ := rs.one
    have key : ∀ {a : Addr} {ns : List Int}, SqL K H a (ns.map V.int) → Q (.int (ns.map fun n => (PyData.none, PyData.int n)).length) H → ∃ x n, [V.ref a] = [x] ∧ LenV K x H n ∧ Q (.int n) H := fun {a ns} sq q =>
      ⟨_, ns.length, rfl, .inl ⟨_, sq, by rw [List.length_map]⟩, by rw [List.length_map] at q; exact q⟩
    cases rv with
    | rp rv =>
      cases rv with
      | scr f q => exact key (.inl (.inr ⟨_, q⟩)) (h F H _ Stp.refl (.int _))
      | scrK q => exact key (q.sq H) (h F H _ Stp.refl (.int _))
  · cases hs
def absD : List PyData → Option PyData
  | [.int i] => some (.int (if i < 0 then -i else i))
  | _ => none
theorem sem_abs : SemC K (fun xs H Q => ∃ i, xs = [.int i] ∧ Q (.int (if i < 0 then -i else i)) H) absD := by
  intro F H vs ds z Q rs hs h
  unfold absD at hs
  split at hs
  · cases hs
    obtain ⟨v, rfl, rv⟩ := rs.one
    exact ⟨_, by rw [rv.int'], h F H _ Stp.refl (.int _)⟩
  · cases hs
def max2D : List PyData → Option PyData
  | [.int i, .int j] => some (.int (if j > i then j else i))
  | _ => none
def min2D : List PyData → Option PyData
  | [.int i, .int j] => some (.int (if j < i then j else i))
  | _ => none
theorem sem_max2 : SemC K (fun xs H Q => ∃ i j, xs = [.int i, .int j] ∧ Q (.int (if j > i then j else i)) H) max2D := by
  intro F H vs ds z Q rs hs h
  unfold max2D at hs
  split at hs
  · cases hs
    obtain ⟨v, w, rfl, rv, rw'⟩ := rs.two
    exact ⟨_, _, by rw [rv.int', rw'.int'], h F H _ Stp.refl (.int _)⟩
  · cases hs
theorem sem_min2 : SemC K (fun xs H Q => ∃ i j, xs = [.int i, .int j] ∧ Q (.int (if j < i then j else i)) H) min2D := by
  intro F H vs ds z Q rs hs h
  unfold min2D at hs
  split at hs
  · cases hs
    obtain ⟨v, w, rfl, rv, rw'⟩ := rs.two
    exact ⟨_, _, by rw [rv.int', rw'.int'], h F H _ Stp.refl (.int _)⟩
  · cases hs
def intD : List PyData → Option PyData
  | [.int i] => some (.int i)
  | [.bool b] => some (.int (if b then 1 else 0))
  | _ => none
theorem sem_int : SemC K (fun xs H Q => (∃ i, xs = [.int i] ∧ Q (.int i) H) ∨ ∃ k, xs = [.bl k] ∧ Q (.int (if k then 1 else 0)) H) intD := by
  intro F H vs ds z Q rs hs h
  unfold intD at hs
  split at hs
  · cases hs
    obtain ⟨v, rfl, rv⟩ := rs.one
    exact .inl ⟨_, by rw [rv.int'], h F H _ Stp.refl (.int _)⟩
  · cases hs
    obtain ⟨v, rfl, rv⟩ := rs.one
    exact .inr ⟨_, by rw [rv.bool'], h F H _ Stp.refl (.int _)⟩
  · cases hs
/-- a list of ints, of bools, as plain lists -/
def intsO : List PyData → Option (List Int)
  | [] => some []
  | .int i :: ds => (intsO ds).map (i :: ·)
  | _ => none
def boolsO : List PyData → Option (List Bool)
  | [] => some []
  | .bool i :: ds => (boolsO ds).map (i :: ·)
  | _ => none
theorem intsO_eq : ∀ {ds : List PyData} {ns : List Int}, intsO ds = some ns → ds = ns.map PyData.int
  | [], ns, h => by cases h; rfl
  | .int i :: ds, ns, h => by
    unfold intsO at h
    cases e : intsO ds with
    | none => rw [e] at h; cases h
    | some ms => rw [e] at h; cases h; rw [intsO_eq e]; rfl
  | .none :: _, _, h => by cases h
  | .bool _ :: _, _, h => by cases h
  | .str _ :: _, _, h => by cases h
  | .list _ :: _, _, h => by cases h
  | .tuple _ :: _, _, h => by cases h
  | .dict _ :: _, _, h => by cases h
@[simp] theorem intsO_map (ns : List Int) : intsO (ns.map PyData.int) = some ns := by
  induction ns with
  | nil => rfl
  | cons n ns ih => rw [List.map_cons, intsO, ih]; rfl
theorem boolsO_eq : ∀ {ds : List PyData} {ns : List Bool}, boolsO ds = some ns → ds = ns.map PyData.bool
  | [], ns, h => by cases h; rfl
  | .bool i :: ds, ns, h => by
    unfold boolsO at h
    cases e : boolsO ds with
    | none => rw [e] at h; cases h
    | some ms => rw [e] at h; cases h; rw [boolsO_eq e]; rfl
  | .none :: _, _, h => by cases h
  | .int _ :: _, _, h => by cases h
  | .str _ :: _, _, h => by cases h
  | .list _ :: _, _, h => by cases h
  | .tuple _ :: _, _, h => by cases h
  | .dict _ :: _, _, h => by cases h
@[simp] theorem boolsO_map (ns : List Bool) : boolsO (ns.map PyData.bool) = some ns := by
  induction ns with
  | nil => rfl
  | cons n ns ih => rw [List.map_cons, boolsO, ih]; rfl
def sumD : List PyData → Option PyData
  | [.list ds] => (intsO ds).map fun ns => .int ns.sum
  | _ => none
theorem ints_of {F : Rg} {H : Hp} {v : V} {ds : List PyData} {ns : List Int} (rv : RpB K F H v (.list ds)) (e : intsO ds = some ns) : ∃ a, v = .ref a ∧ H a = some (.lst (ns.map V.int)) := by
  obtain ⟨a, xs, rfl, ha, r⟩ := rv.list
  rw [intsO_eq e] at r
  rw [r.ints] at ha
  exact ⟨a, rfl, ha⟩
theorem sem_sum : SemC K (rSum K) sumD := by
  intro F H vs ds z Q rs hs h
  unfold sumD at hs
  split at hs
  · rename_i ds
    cases e : intsO ds with
    | none => rw [e] at hs; cases hs
    | some ns =>
      rw [e] at hs
      cases hs
      obtain ⟨v, rfl, rv⟩ := rs.one
      obtain ⟨a, rfl, ha⟩ := ints_of rv e
      exact ⟨a, ns, rfl, SqL.of ha, h F H _ Stp.refl (.int _)⟩
  · cases hs
def maxL : List Int → Option Int
  | [] => none
  | n :: ns => some (ns.foldl max n)
def minL : List Int → Option Int
  | [] => none
  | n :: ns => some (ns.foldl min n)
theorem foldl_max_ge : ∀ (ns : List Int) (a : Int), a ≤ ns.foldl max a ∧ ∀ y ∈ ns, y ≤ ns.foldl max a
  | [], a => ⟨Int.le_refl a, fun _ h => by cases h⟩
  | n :: ns, a => by
    obtain ⟨h1, h2⟩ := foldl_max_ge ns (max a n)
    refine ⟨by rw [List.foldl_cons]; omega, fun y hy => ?_⟩
    rw [List.foldl_cons]
    rcases List.mem_cons.mp hy with rfl | hy
    · omega
    · exact h2 y hy
theorem foldl_max_mem : ∀ (ns : List Int) (a : Int), ns.foldl max a = a ∨ ns.foldl max a ∈ ns
  | [], a => .inl rfl
  | n :: ns, a => by
    rw [List.foldl_cons]
    rcases foldl_max_mem ns (max a n) with h | h
    · rw [h]
      by_cases c : a ≤ n
      · right; rw [Int.max_eq_right c]; exact List.mem_cons_self ..
      · left; exact Int.max_eq_left (by omega)
    · exact .inr (List.mem_cons_of_mem _ h)
theorem foldl_min_le : ∀ (ns : List Int) (a : Int), ns.foldl min a ≤ a ∧ ∀ y ∈ ns, ns.foldl min a ≤ y
  | [], a => ⟨Int.le_refl a, fun _ h => by cases h⟩
  | n :: ns, a => by
    obtain ⟨h1, h2⟩ := foldl_min_le ns (min a n)
    refine ⟨by rw [List.foldl_cons]; omega, fun y hy => ?_⟩
    rw [List.foldl_cons]
    rcases List.mem_cons.mp hy with rfl | hy
    · omega
    · exact h2 y hy
theorem foldl_min_mem : ∀ (ns : List Int) (a : Int), ns.foldl min a = a ∨ ns.foldl min a ∈ ns
  | [], a => .inl rfl
  | n :: ns, a => by
    rw [List.foldl_cons]
    rcases foldl_min_mem ns (min a n) with h | h
    · rw [h]
      by_cases c : a ≤ n
      · left; exact Int.min_eq_left c
      · right; rw [Int.min_eq_right (by omega)]; exact List.mem_cons_self ..
    · exact .inr (List.mem_cons_of_mem _ h)
theorem maxL_spec {ns : List Int} {m : Int} (h : maxL ns = some m) : m ∈ ns ∧ ∀ y ∈ ns, y ≤ m := by
  cases ns with
  | nil => cases h
  | cons n ns =>
    cases h
    refine ⟨(foldl_max_mem ns n).elim (fun e => by rw [e]; exact List.mem_cons_self ..) (List.mem_cons_of_mem _), fun y hy => ?_⟩
    rcases List.mem_cons.mp hy with rfl | hy
    · exact (foldl_max_ge ns y).1
    · exact (foldl_max_ge ns n).2 y hy
theorem minL_spec {ns : List Int} {m : Int} (h : minL ns = some m) : m ∈ ns ∧ ∀ y ∈ ns, m ≤ y := by
  cases ns with
  | nil => cases h
  | cons n ns =>
    cases h
    refine ⟨(foldl_min_mem ns n).elim (fun e => by rw [e]; exact List.mem_cons_self ..) (List.mem_cons_of_mem _), fun y hy => ?_⟩
    rcases List.mem_cons.mp hy with rfl | hy
    · exact (foldl_min_le ns y).1
    · exact (foldl_min_le ns n).2 y hy
def maxD : List PyData → Option PyData
  | [.list ds] => (intsO ds).bind fun ns => (maxL ns).map PyData.int
  | _ => none
def minD : List PyData → Option PyData
  | [.list ds] => (intsO ds).bind fun ns => (minL ns).map PyData.int
  | _ => none
theorem sem_max : SemC K (rMax K) maxD := by
  intro F H vs ds z Q rs hs h
  unfold maxD at hs
  split at hs
  · rename_i ds
    cases e : intsO ds with
    | none => rw [e] at hs; cases hs
    | some ns =>
      rw [e] at hs
      have hs : (maxL ns).map PyData.int = some z := hs
      cases em : maxL ns with
      | none => rw [em] at hs; cases hs
      | some m =>
        rw [em] at hs
        cases hs
        obtain ⟨s1, s2⟩ := maxL_spec em
        obtain ⟨v, rfl, rv⟩ := rs.one
        obtain ⟨a, rfl, ha⟩ := ints_of rv e
        refine ⟨a, ns, rfl, SqL.of ha, List.length_pos_of_mem s1, fun m' h1 h2 => ?_⟩
        have : m' = m := by have := s2 m' h1; have := h2 m s1; omega
        rw [this]
        exact h F H _ Stp.refl (.int _)
  · cases hs
theorem sem_min : SemC K (rMin K) minD := by
  intro F H vs ds z Q rs hs h
  unfold minD at hs
  split at hs
  · rename_i ds
    cases e : intsO ds with
    | none => rw [e] at hs; cases hs
    | some ns =>
      rw [e] at hs
      have hs : (minL ns).map PyData.int = some z := hs
      cases em : minL ns with
      | none => rw [em] at hs; cases hs
      | some m =>
        rw [em] at hs
        cases hs
        obtain ⟨s1, s2⟩ := minL_spec em
        obtain ⟨v, rfl, rv⟩ := rs.one
        obtain ⟨a, rfl, ha⟩ := ints_of rv e
        refine ⟨a, ns, rfl, SqL.of ha, List.length_pos_of_mem s1, fun m' h1 h2 => ?_⟩
        have : m' = m := by have := s2 m' h1; have := h2 m s1; omega
        rw [this]
        exact h F H _ Stp.refl (.int _)
  · cases hs
def allD : List PyData → Option PyData
  | [.list ds] => (boolsO ds).map fun bs => .bool (bs.all id)
  | _ => none
def anyD : List PyData → Option PyData
  | [.list ds] => (boolsO ds).map fun bs => .bool (bs.any id)
  | _ => none
theorem bools_of {F : Rg} {H : Hp} {v : V} {ds : List PyData} {ns : List Bool} (rv : RpB K F H v (.list ds)) (e : boolsO ds = some ns) : ∃ a, v = .ref a ∧ H a = some (.lst (ns.map V.bl)) := by
  obtain ⟨a, xs, rfl, ha, r⟩ := rv.list
  rw [boolsO_eq e] at r
  rw [r.bools] at ha
  exact ⟨a, rfl, ha⟩
theorem sem_all : SemC K (rAll K) allD := by
  intro F H vs ds z Q rs hs h
  unfold allD at hs
  split at hs
  · rename_i ds
    cases e : boolsO ds with
    | none => rw [e] at hs; cases hs
    | some ns =>
      rw [e] at hs
      cases hs
      obtain ⟨v, rfl, rv⟩ := rs.one
      obtain ⟨a, rfl, ha⟩ := bools_of rv e
      exact ⟨a, ns, rfl, SqL.of ha, h F H _ Stp.refl (.bl _)⟩
  · cases hs
theorem sem_any : SemC K (rAny K) anyD := by
  intro F H vs ds z Q rs hs h
  unfold anyD at hs
  split at hs
  · rename_i ds
    cases e : boolsO ds with
    | none => rw [e] at hs; cases hs
    | some ns =>
      rw [e] at hs
      cases hs
      obtain ⟨v, rfl, rv⟩ := rs.one
      obtain ⟨a, rfl, ha⟩ := bools_of rv e
      exact ⟨a, ns, rfl, SqL.of ha, h F H _ Stp.refl (.bl _)⟩
  · cases hs
/-- list(xs) -/
def listN : List PyData → Option (List PyData)
  | [.list xs] => some xs
  | [.tuple xs] => some xs
  | _ => none
theorem sem_list : SemCN K (fun xs H Q => ∃ p ys, xs = [.ref p] ∧ (SqL K H p ys ∨ SqT K H p ys) ∧ ∀ l, H l = none → Q (.ref l) (upd H l (.lst ys))) listN := by
  intro F H vs ds z Q rs hs h
  unfold listN at hs
  split at hs
  · cases hs
    obtain ⟨v, rfl, rv⟩ := rs.one
    obtain ⟨a, xs, rfl, ha, r⟩ := rv.list
    exact ⟨a, xs, rfl, .inl (SqL.of ha), fun p hp => h p xs hp r⟩
  · cases hs
    obtain ⟨v, rfl, rv⟩ := rs.one
    obtain ⟨a, xs, rfl, ha, r⟩ := rv.tuple
    exact ⟨a, xs, rfl, .inr ha, fun p hp => h p xs hp r⟩
  · cases hs
/-- tuple(xs) -/
def tupleD : List PyData → Option PyData
  | [.list xs] => some (.tuple xs)
  | _ => none
theorem sem_tuple : SemC K (fun xs H Q => ∃ p ys, xs = [.ref p] ∧ ((SqL K H p ys ∧ ∀ l, H l = none → Q (.ref l) (upd H l (.tup ys))) ∨ (SqT K H p ys ∧ Q (.ref p) H))) tupleD := by
  intro F H vs ds z Q rs hs h
  unfold tupleD at hs
  split at hs
  · cases hs
    obtain ⟨v, rfl, rv⟩ := rs.one
    obtain ⟨a, xs, rfl, ha, r⟩ := rv.list
    exact ⟨a, xs, rfl, .inl ⟨SqL.of ha, fun p hp => h _ _ _ (Stp.add hp) (Rp.newT hp r)⟩⟩
  · cases hs
/-- sorted(xs), ints -/
def sortI (ns : List Int) : List Int := ns.mergeSort fun a b => decide (a ≤ b)
def sortedN : List PyData → Option (List PyData)
  | [.list ds] => (intsO ds).map fun ns => (sortI ns).map PyData.int
  | _ => none
theorem sorted_uniq : ∀ {l m : List Int}, l.Perm m → l.Pairwise (· ≤ ·) → m.Pairwise (· ≤ ·) → l = m
  | [], m, p, _, _ => (List.Perm.eq_nil p.symm).symm ▸ rfl
  | a :: l, m, p, h1, h2 => by
    cases m with
    | nil => exact absurd p.length_eq (by simp)
    | cons b m =>
      have ab : a = b := by
        have hb : b ∈ a :: l := p.mem_iff.mpr (List.mem_cons_self ..)
        have ha : a ∈ b :: m := p.mem_iff.mp (List.mem_cons_self ..)
        have i1 : a ≤ b := by
          rcases List.mem_cons.mp hb with e | hb
          · omega
          · exact (List.pairwise_cons.mp h1).1 b hb
        have i2 : b ≤ a := by
          rcases List.mem_cons.mp ha with e | ha
          · omega
          · exact (List.pairwise_cons.mp h2).1 a ha
        omega
      subst ab
      rw [sorted_uniq (List.Perm.cons_inv p) (List.pairwise_cons.mp h1).2 (List.pairwise_cons.mp h2).2]
theorem sortI_perm (ns : List Int) : (sortI ns).Perm ns := List.mergeSort_perm _ _
theorem sortI_sorted (ns : List Int) : (sortI ns).Pairwise (· ≤ ·) := by
  have h := List.pairwise_mergeSort (le := fun a b : Int => decide (a ≤ b)) (by intro a b c h1 h2; simp only [decide_eq_true_eq] at h1 h2 ⊢; omega) (by intro a b; simp only [Bool.or_eq_true, decide_eq_true_eq]; omega) ns
  exact h.imp fun {a b} h => of_decide_eq_true h
theorem sem_sorted : SemCN K (rSortedI K) sortedN := by
  intro F H vs ds z Q rs hs h
  unfold sortedN at hs
  split at hs
  · rename_i ds
    cases e : intsO ds with
    | none => rw [e] at hs; cases hs
    | some ns =>
      rw [e] at hs
      cases hs
      obtain ⟨v, rfl, rv⟩ := rs.one
      obtain ⟨a, rfl, ha⟩ := ints_of rv e
      refine ⟨a, ns, rfl, SqL.of ha, fun ns' p hp ho hn => ?_⟩
      rw [sorted_uniq (hp.trans (sortI_perm ns).symm) ho (sortI_sorted ns)]
      exact h p _ hn Rps.of_ints
  · cases hs
end
end Pf
/-! Pf4: calls of defs; what is walked; targets; comprehensions. -/
namespace Pf
open PySem PySem.Spec PyProof.Rows L2

abbrev W0 : WX := fun _ _ _ _ => False

/-! ### defs -/
def spOf (K : PySem.W.Frag) (mg : Str → Option Value) (n : Nat) (m : List PyData → Res PyData) : Sp := fun vs H Q E =>
  vs.length = n ∧ ∃ (F : Rg) (ds : List PyData), (∀ a, F a → H a ≠ none) ∧ Rps K F H vs ds ∧ match m ds with
    | .ok d => ∀ F' H' v, Stp F H F' H' → Rp K F' H' v d → Q v H'
    | .exc c k => ∀ (H' : Hp) (dx C : Addr), Same H H' → H' dx = some (.xd [("at", .int k)]) → mg c = some (.ref C) → E (.ref C) (some dx) H'
    | .bad => False
section
variable {X : Cx} {W : WX} {pos : Pos}
theorem pf_call {x : Str} {p : Pos} {k n : Nat} {f : Addr} {fd : FuncData} {ps : List Str} {m : List PyData → Res PyData} {e : Expr} {es : List Expr} {g : Ro → Res (List PyData)} (Fo : FnOk X.prog X.w X.K X.mg X.base (L2.CX X.prog X.w) k f fd ps (spOf X.K X.mg n m)) (hr : Room k X.A) (hg : Gl X x) (hm : X.mg x = some (.ref f)) (hk : PySem.W.keepIn X.K (.ref f) = true) (hb : Binds X.K fd ps [])
    (tk : Takes X W) (ha : PA X (e :: es) (tAs X.K X.mg W g)) (hl : ∀ ρ ds, g ρ = .ok ds → ds.length = n) (hdb : (x == ("__debug__" : Str)) = false := by decide) (he : starEach (e :: es) X.env = (false, eval e X.env) :: starEach es X.env := by rfl) (hpl : (backTo pos (starEach es X.env)).any (·.1) = false := by rfl) :
    PE X (.Call (.Name x p) (e :: es) [] pos) (tF X.K X.mg W (eCall m g)) :=
  (pe_callS (E := WE W) Fo hr hg hm hk hb (fun σ => passAt tk σ) ha hdb he hpl).imp fun σ H Q ⟨B, F0, F, ρ, S, p⟩ => by
    refine tAs.mk S p fun ds F1 H1 vs e st rs q => ?_
    refine ⟨by rw [rs.length]; exact hl ρ ds e, F1, ds, (S.stp st).trk, rs, ?_⟩
    cases em : m ds with
    | ok d => rw [em] at q; exact fun F' H' v st2 r => q F' H' v (st.trans st2) r
    | exc c k => rw [em] at q; exact fun H' dx C s h1 h2 => q H' dx C (st.keep.trans s) h1 h2
    | bad => rw [em] at q; exact q
end

/-! ### what is walked -/
structure Kept (Z : Bool) (F1 : Rg) (H1 : Hp) (F : Rg) (H : Hp) : Prop where
  sub : ∀ a, F1 a → F a
  keep : ∀ a, (Z = true ∨ F1 a) → ∀ o, H1 a = some o → H a = some o
theorem Kept.fk {Z : Bool} {F1 F : Rg} {H1 H : Hp} (k : Kept Z F1 H1 F H) : FK F1 H1 F H := ⟨k.sub, fun a h => k.keep a (.inr h)⟩
structure GoodIt (K : PySem.W.Frag) (J : It) (Z : Bool) (F1 : Rg) (H1 : Hp) (ds : List PyData) : Prop where
  len : ds.length ≤ 16777216
  go : ∀ (i : Nat) (d : PyData) (F : Rg) (H : Hp), ds[i]? = some d → Kept Z F1 H1 F H → J.go i H ∧ ∀ x H', J.yld i H x H' → ∃ F', Stp F H F' H' ∧ Rp K F' H' x d
  stop : ∀ (F : Rg) (H : Hp), Kept Z F1 H1 F H → J.stop ds.length H
def tI (K : PySem.W.Frag) (mg : Str → Option Value) (W : WX) (Z : Bool) (fi : Ro → Res (List PyData)) : TI := fun σ H R =>
  ∃ (B : Hp) (F0 F : Rg) (ρ : Ro), Ste K B F0 F H σ ρ ∧ PostE mg W σ H (fun ds => ∀ J F' H', Stp F H F' H' → GoodIt K J Z F' H' ds → R J H') (fi ρ)
theorem _root_.L2.PI.imp {X : Cx} {tg e : Expr} {t t' : TI} (h : PI X tg e t) (i : ∀ σ H R, t' σ H R → t σ H R) : PI X tg e t' := ⟨fun pins s σ H Q I q => h.run pins s σ H Q I (i σ H Q q)⟩
theorem _root_.L2.PI.or {X : Cx} {tg e : Expr} {t t' : TI} (h : PI X tg e t) (h' : PI X tg e t') : PI X tg e (fun σ H R => t σ H R ∨ t' σ H R) := ⟨fun pins s σ H Q I q => q.elim (h.run pins s σ H Q I) (h'.run pins s σ H Q I)⟩
section
variable {X : Cx} {K : PySem.W.Frag} {mg : Str → Option Value} {W : WX} {Z : Bool} {tg : Expr} {pos : Pos}
def itL : PyData → Option (List PyData)
  | .list xs => some xs
  | .tuple xs => some xs
  | _ => none
theorem good_list {F1 : Rg} {H1 : Hp} {a : Addr} {xs : List V} {ds : List PyData} (hZ : Z = true ∨ F1 a) (ha : H1 a = some (.lst xs)) (r : Rps K F1 H1 xs ds) (hl : ds.length ≤ 16777216) : GoodIt K (Itl K a) Z F1 H1 ds where
  len := hl
  go := fun i d F H e k => by
    obtain ⟨v, h1, h2⟩ := r.get e
    have ha' := k.keep a hZ _ ha
    refine ⟨⟨xs, v, SqL.of ha', h1⟩, fun x H' y => ?_⟩
    obtain ⟨rfl, y⟩ := y
    have := y xs (SqL.of ha')
    rw [h1] at this
    cases this
    exact ⟨F, Stp.refl, h2.fk k.fk⟩
  stop := fun F H k => ⟨xs, SqL.of (k.keep a hZ _ ha), by rw [r.length]; exact Nat.le_refl _⟩
theorem SqT.kept {F1 F : Rg} {H1 H : Hp} {a : Addr} {xs : List V} {ds : List PyData} (h : Rp K F1 H1 (.ref a) (.tuple ds)) (k : FK F1 H1 F H) : Rp K F H (.ref a) (.tuple ds) := h.fk k
theorem good_tup {F1 : Rg} {H1 : Hp} {a : Addr} {ds : List PyData} (h : Rp K F1 H1 (.ref a) (.tuple ds)) (hl : ds.length ≤ 16777216) : GoodIt K (Itt K a) Z F1 H1 ds := by
  have key : ∃ xs, (∀ F H, FK F1 H1 F H → SqT K H a xs) ∧ Rps K F1 H1 xs ds := by
    cases h with
    | tup f q r => exact ⟨_, fun F H k => SqT.of (k.keep a f _ q), r⟩
    | tupK q r => exact ⟨_, fun F H k => q.sq H, r⟩
  obtain ⟨xs, hq, r⟩ := key
  refine ⟨hl, fun i d F H e k => ?_, fun F H k => ⟨xs, hq F H k.fk, by rw [r.length]; exact Nat.le_refl _⟩⟩
  obtain ⟨v, h1, h2⟩ := r.get e
  refine ⟨⟨xs, v, hq F H k.fk, h1⟩, fun x H' y => ?_⟩
  obtain ⟨rfl, y⟩ := y
  have := y xs (hq F _ k.fk)
  rw [h1] at this
  cases this
  exact ⟨F, Stp.refl, h2.fk k.fk⟩
/-- over a list or tuple in the region -/
theorem pf_iF {l : Expr} {f : Ro → Res PyData} (hK : X.K = K) (h : PE X l (tF K mg W f)) : PI X tg l (tI K mg W Z (e1 itL f)) :=
  ((pi_list h.len).or (pi_tup h.len)).imp fun σ H R ⟨B, F0, F, ρ, S, p⟩ => by
    unfold e1 at p
    subst hK
    cases e : f ρ with
    | ok d =>
      rw [e] at p
      cases d with
      | list ds =>
        refine .inl ⟨B, F0, F, ρ, S, ?_⟩
        rw [e]
        have p : ∀ J F' H', Stp F H F' H' → GoodIt X.K J Z F' H' ds → R J H' := p
        intro F' H' v st r hlen
        cases r with
        | lst f q r => exact ⟨_, rfl, ⟨_, SqL.of q⟩, p _ _ _ st (good_list (.inr f) q r (by rw [← r.length]; have := (hlen _ rfl).1 _ (SqL.of q); rw [sizeLine_eq] at this; exact this))⟩
      | tuple ds =>
        refine .inr ⟨B, F0, F, ρ, S, ?_⟩
        rw [e]
        have p : ∀ J F' H', Stp F H F' H' → GoodIt X.K J Z F' H' ds → R J H' := p
        intro F' H' v st r hlen
        obtain ⟨a, xs, rfl, hq, rr⟩ := (RpB.rp r).tuple
        exact ⟨a, rfl, ⟨xs, hq⟩, p _ _ _ st (good_tup r (by rw [← rr.length]; have := (hlen _ rfl).2 _ hq; rw [sizeLine_eq] at this; exact this))⟩
      | _ => exact p.elim
    | exc c k => rw [e] at p; exact .inl ⟨B, F0, F, ρ, S, by rw [e]; exact p⟩
    | bad => rw [e] at p; exact p.elim
/-- .. or one's own list, where nothing is changed meanwhile -/
theorem pf_iB {l : Expr} {f : Ro → Res PyData} (hK : X.K = K) (h : PE X l (tB K mg W f)) : PI X tg l (tI K mg W true (e1 itL f)) :=
  ((pi_list h.len).or (pi_tup h.len)).imp fun σ H R ⟨B, F0, F, ρ, S, p⟩ => by
    unfold e1 at p
    subst hK
    cases e : f ρ with
    | ok d =>
      rw [e] at p
      cases d with
      | list ds =>
        refine .inl ⟨B, F0, F, ρ, S, ?_⟩
        rw [e]
        have p : ∀ J F' H', Stp F H F' H' → GoodIt X.K J true F' H' ds → R J H' := p
        intro F' H' v st r hlen
        obtain ⟨a, xs, rfl, ha, rr⟩ := r.list
        exact ⟨a, rfl, ⟨xs, SqL.of ha⟩, p _ _ _ st (good_list (.inl rfl) ha rr (by rw [← rr.length]; have := (hlen _ rfl).1 _ (SqL.of ha); rw [sizeLine_eq] at this; exact this))⟩
      | tuple ds =>
        refine .inr ⟨B, F0, F, ρ, S, ?_⟩
        rw [e]
        have p : ∀ J F' H', Stp F H F' H' → GoodIt X.K J true F' H' ds → R J H' := p
        intro F' H' v st r hlen
        obtain ⟨a, xs, rfl, hq, rr⟩ := r.tuple
        cases r with
        | rp r => exact ⟨a, rfl, ⟨xs, hq⟩, p _ _ _ st (good_tup r (by rw [← rr.length]; have := (hlen _ rfl).2 _ hq; rw [sizeLine_eq] at this; exact this))⟩
      | _ => exact p.elim
    | exc c k => rw [e] at p; exact .inl ⟨B, F0, F, ρ, S, by rw [e]; exact p⟩
    | bad => rw [e] at p; exact p.elim
/-- over a range -/
def rngL (lo : Int) (n : Nat) : List PyData := (List.range n).map fun i => .int (lo + (i : Nat))
theorem rngL_length (lo : Int) (n : Nat) : (rngL lo n).length = n := by unfold rngL; simp
theorem rngL_get {lo : Int} {n i : Nat} {d : PyData} (h : (rngL lo n)[i]? = some d) : i < n ∧ d = .int (lo + i) := by
  unfold rngL at h
  rw [List.getElem?_map] at h
  by_cases hi : i < n
  · rw [List.getElem?_range hi] at h; cases h; exact ⟨hi, rfl⟩
  · rw [List.getElem?_eq_none (by simpa using hi)] at h; cases h
theorem good_range {F1 : Rg} {H1 : Hp} {lo : Int} {n : Nat} (hl : n ≤ 16777216) : GoodIt K (Itr lo n) Z F1 H1 (rngL lo n) where
  len := by rw [rngL_length]; exact hl
  go := fun i d F H e k => by
    obtain ⟨h1, rfl⟩ := rngL_get e
    refine ⟨h1, fun x H' y => ?_⟩
    obtain ⟨rfl, rfl⟩ := y
    exact ⟨F, Stp.refl, .int _⟩
  stop := fun F H k => by rw [rngL_length]; exact Nat.le_refl _
def rg1 : List PyData → Option (List PyData)
  | [.int j] => if -4611686018427387904 ≤ j ∧ j ≤ 16777216 then some (rngL 0 j.toNat) else none
  | _ => none
def rg2 : List PyData → Option (List PyData)
  | [.int i, .int j] => if -4611686018427387904 ≤ i ∧ i < 4611686018427387904 ∧ -4611686018427387904 ≤ j ∧ j < 4611686018427387904 ∧ j - i ≤ 16777216 then some (rngL i (j - i).toNat) else none
  | _ => none
theorem pf_range1 {a : Expr} {p : Pos} {g : Ro → Res (List PyData)} (hg : Gl X "range") (hm : X.mg "range" = none) (ha : PA X [a] (tABs K mg W g)) (hs : starEach [a] X.env = [(false, eval a X.env)] := by rfl) : PI X tg (.Call (.Name "range" p) [a] [] pos) (tI K mg W Z (e1 rg1 g)) :=
  (pi_range1 hg hm ha hs).imp fun σ H R ⟨B, F0, F, ρ, S, p⟩ => by
    refine tABs.mk S p fun ds F1 H1 vs _ st rs p => ?_
    obtain ⟨z, ez, q⟩ := p.ofO
    unfold rg1 at ez
    split at ez
    · split at ez
      · rename_i hl
        cases ez
        obtain ⟨v, rfl, rv⟩ := rs.one
        exact ⟨_, by rw [rv.int'], by omega, by omega, q _ _ _ st (good_range (by omega))⟩
      · cases ez
    · cases ez
theorem pf_range2 {a b : Expr} {p : Pos} {g : Ro → Res (List PyData)} (hg : Gl X "range") (hm : X.mg "range" = none) (ha : PA X [a, b] (tABs K mg W g)) (hs : starEach [a, b] X.env = [(false, eval a X.env), (false, eval b X.env)] := by rfl) (hs2 : starEach [b] X.env = [(false, eval b X.env)] := by rfl) : PI X tg (.Call (.Name "range" p) [a, b] [] pos) (tI K mg W Z (e1 rg2 g)) :=
  (pi_range2 hg hm ha hs hs2).imp fun σ H R ⟨B, F0, F, ρ, S, p⟩ => by
    refine tABs.mk S p fun ds F1 H1 vs _ st rs p => ?_
    obtain ⟨z, ez, q⟩ := p.ofO
    unfold rg2 at ez
    split at ez
    · split at ez
      · rename_i hl
        cases ez
        obtain ⟨v, w, rfl, rv, rw'⟩ := rs.two
        exact ⟨_, _, by rw [rv.int', rw'.int'], ⟨by omega, by omega, by omega, by omega⟩, q _ _ _ st (good_range (by omega))⟩
      · cases ez
    · cases ez
/-- enumerate(list) -/
def enumL : List PyData → Option (List PyData)
  | [.list xs] => some (xs.zipIdx.map fun p => .tuple [.int (p.2 : Nat), p.1])
  | _ => none
theorem good_enum {F1 : Rg} {H1 : Hp} {a : Addr} {xs : List V} {ds : List PyData} (hZ : Z = true ∨ F1 a) (ha : H1 a = some (.lst xs)) (r : Rps K F1 H1 xs ds) (hl : ds.length ≤ 16777216) : GoodIt K (Ite K a) Z F1 H1 (ds.zipIdx.map fun p => .tuple [.int (p.2 : Nat), p.1]) where
  len := by simpa using hl
  go := fun i d F H e k => by
    rw [List.getElem?_map, List.getElem?_zipIdx] at e
    cases e2 : ds[i]? with
    | none => rw [e2] at e; cases e
    | some d' =>
      rw [e2] at e
      obtain ⟨v, h1, h2⟩ := r.get e2
      have ha' := k.keep a hZ _ ha
      refine ⟨⟨xs, v, SqL.of ha', h1⟩, fun x H' y => ?_⟩
      obtain ⟨T, x', rfl, hT, rfl, y⟩ := y
      have := y xs (SqL.of ha')
      rw [h1] at this
      cases this
      refine ⟨_, Stp.add hT, ?_⟩
      have ed : d = .tuple [.int (i : Nat), d'] := by simpa using e.symm
      rw [ed]
      exact Rp.newT hT (.cons (.int _) (.cons (h2.fk k.fk) .nil))
  stop := fun F H k => ⟨xs, SqL.of (k.keep a hZ _ ha), by rw [r.length]; simp⟩
theorem pf_enumB {e : Expr} {p tpos : Pos} {elts : List Expr} {kk : Nat} {f : Ro → Res PyData} (hK : X.K = K) (hg : Gl X "enumerate") (hm : X.mg "enumerate" = none) (ha : PE X e (tB K mg W f)) (hs : starEach [e] X.env = [(false, eval e X.env)] := by rfl) : PI X (.Tuple elts kk tpos) (.Call (.Name "enumerate" p) [e] [] pos) (tI K mg W true (e1 enumL (eCons f eNil))) :=
  (pi_enum hg hm (pa_cons ha.len pa_nil hs) hs).imp fun σ H R ⟨B, F0, F, ρ, S, p⟩ => by
    subst hK
    unfold e1 eCons eNil at p
    have p2 : PostE mg W σ H (fun ds => ∀ J F' H', Stp F H F' H' → GoodIt X.K J true F' H' ds → R J H') ((f ρ).bind fun d => ofO (enumL [d])) := by
      cases e : f ρ with
      | _ => rw [e] at p; exact p
    refine tE.mk S p2 fun d F1 H1 x _ st rx p3 hlen => ?_
    obtain ⟨z, ez, q⟩ := p3.ofO
    cases d with
    | list ds =>
      cases ez
      obtain ⟨a, xs, rfl, ha, rr⟩ := rx.list
      exact ⟨a, xs, rfl, SqL.of ha, q _ _ _ st (good_enum (.inl rfl) ha rr (by rw [← rr.length]; have := (hlen _ rfl).1 _ (SqL.of ha); rw [sizeLine_eq] at this; exact this))⟩
    | _ => cases ez
theorem pf_enumF {e : Expr} {p tpos : Pos} {elts : List Expr} {kk : Nat} {f : Ro → Res PyData} (hK : X.K = K) (hg : Gl X "enumerate") (hm : X.mg "enumerate" = none) (ha : PE X e (tF K mg W f)) (hs : starEach [e] X.env = [(false, eval e X.env)] := by rfl) : PI X (.Tuple elts kk tpos) (.Call (.Name "enumerate" p) [e] [] pos) (tI K mg W Z (e1 enumL (eCons f eNil))) :=
  (pi_enum hg hm (pa_cons ha.len pa_nil hs) hs).imp fun σ H R ⟨B, F0, F, ρ, S, p⟩ => by
    subst hK
    unfold e1 eCons eNil at p
    have p2 : PostE mg W σ H (fun ds => ∀ J F' H', Stp F H F' H' → GoodIt X.K J Z F' H' ds → R J H') ((f ρ).bind fun d => ofO (enumL [d])) := by
      cases e : f ρ with
      | _ => rw [e] at p; exact p
    refine tE.mk S p2 fun d F1 H1 x _ st rx p3 hlen => ?_
    obtain ⟨z, ez, q⟩ := p3.ofO
    cases d with
    | list ds =>
      cases ez
      cases rx with
      | lst f ha rr => exact ⟨_, _, rfl, SqL.of ha, q _ _ _ st (good_enum (.inr f) ha rr (by rw [← rr.length]; have := (hlen _ rfl).1 _ (SqL.of ha); rw [sizeLine_eq] at this; exact this))⟩
    | _ => cases ez
/-- zip(list, list) -/
def zipL : List PyData → Option (List PyData)
  | [.list xs, .list ys] => if xs.length ≤ 16777216 then some ((xs.zip ys).map fun p => .tuple [p.1, p.2]) else none
  | _ => none
theorem good_zip {F1 : Rg} {H1 : Hp} {a b : Addr} {xs ys : List V} {ds es : List PyData} (hZ : Z = true ∨ F1 a) (hZ2 : Z = true ∨ F1 b) (ha : H1 a = some (.lst xs)) (r : Rps K F1 H1 xs ds) (hb : H1 b = some (.lst ys)) (r2 : Rps K F1 H1 ys es) (hl : ds.length ≤ 16777216) : GoodIt K (Itz K a b) Z F1 H1 ((ds.zip es).map fun p => .tuple [p.1, p.2]) where
  len := by simp; omega
  go := fun i d F H e k => by
    rw [List.getElem?_map] at e
    cases e3 : (ds.zip es)[i]? with
    | none => rw [e3] at e; cases e
    | some pr =>
      rw [e3] at e
      obtain ⟨e1, e2⟩ := List.getElem?_zip_eq_some.mp e3
      obtain ⟨v, h1, h2⟩ := r.get e1
      obtain ⟨w, g1, g2⟩ := r2.get e2
      have ha' := k.keep a hZ _ ha
      have hb' := k.keep b hZ2 _ hb
      refine ⟨⟨xs, ys, v, w, SqL.of ha', SqL.of hb', h1, g1⟩, fun x H' y => ?_⟩
      obtain ⟨T, x', y', rfl, hT, rfl, y1, y2⟩ := y
      have z1 := y1 xs (SqL.of ha')
      rw [h1] at z1
      cases z1
      have z2 := y2 ys (SqL.of hb')
      rw [g1] at z2
      cases z2
      refine ⟨_, Stp.add hT, ?_⟩
      have ed : d = .tuple [pr.1, pr.2] := by simpa using e.symm
      rw [ed]
      exact Rp.newT hT (.cons (h2.fk k.fk) (.cons (g2.fk k.fk) .nil))
  stop := fun F H k => ⟨xs, ys, SqL.of (k.keep a hZ _ ha), SqL.of (k.keep b hZ2 _ hb), by rw [r.length, r2.length, List.length_map, List.length_zip]; omega⟩
theorem pf_zipB {e e2 : Expr} {p tpos : Pos} {elts : List Expr} {kk : Nat} {g : Ro → Res (List PyData)} (hK : X.K = K) (hg : Gl X "zip") (hm : X.mg "zip" = none) (ha : PA X [e, e2] (tABs K mg W g))
    (hs : starEach [e, e2] X.env = (false, eval e X.env) :: starEach [e2] X.env := by rfl) (hpl : (backTo pos (starEach [e2] X.env)).any (·.1) = false := by rfl) : PI X (.Tuple elts kk tpos) (.Call (.Name "zip" p) [e, e2] [] pos) (tI K mg W true (e1 zipL g)) :=
  (pi_zip hg hm ha hs hpl).imp fun σ H R ⟨B, F0, F, ρ, S, p⟩ => by
    subst hK
    refine tABs.mk S p fun ds F1 H1 vs _ st rs p => ?_
    obtain ⟨z, ez, q⟩ := p.ofO
    unfold zipL at ez
    split at ez
    · split at ez
      · rename_i hl
        cases ez
        obtain ⟨v, w, rfl, rv, rw'⟩ := rs.two
        obtain ⟨a, xs, rfl, ha, r⟩ := rv.list
        obtain ⟨b, ys, rfl, hb, r2⟩ := rw'.list
        exact ⟨a, b, xs, ys, rfl, SqL.of ha, SqL.of hb, q _ _ _ st (good_zip (.inl rfl) (.inl rfl) ha r hb r2 hl)⟩
      · cases ez
    · cases ez
theorem pf_zipF {e e2 : Expr} {p tpos : Pos} {elts : List Expr} {kk : Nat} {g : Ro → Res (List PyData)} (hK : X.K = K) (hg : Gl X "zip") (hm : X.mg "zip" = none) (ha : PA X [e, e2] (tAs K mg W g))
    (hs : starEach [e, e2] X.env = (false, eval e X.env) :: starEach [e2] X.env := by rfl) (hpl : (backTo pos (starEach [e2] X.env)).any (·.1) = false := by rfl) : PI X (.Tuple elts kk tpos) (.Call (.Name "zip" p) [e, e2] [] pos) (tI K mg W Z (e1 zipL g)) :=
  (pi_zip hg hm ha hs hpl).imp fun σ H R ⟨B, F0, F, ρ, S, p⟩ => by
    subst hK
    refine tAs.mk S p fun ds F1 H1 vs _ st rs p => ?_
    obtain ⟨z, ez, q⟩ := p.ofO
    unfold zipL at ez
    split at ez
    · split at ez
      · rename_i hl
        cases ez
        cases rs with
        | cons rv rs =>
          cases rs with
          | cons rw' rs =>
            cases rs
            cases rv with
            | lst f1 ha r =>
              cases rw' with
              | lst f2 hb r2 => exact ⟨_, _, _, _, rfl, SqL.of ha, SqL.of hb, q _ _ _ st (good_zip (.inr f1) (.inr f2) ha r hb r2 hl)⟩
      · cases ez
    · cases ez
end

/-! ### targets -/
def WpEq (is : List Nat) (σ' σ : L2.St) : Prop := ∀ vs : List Nat, (∀ i ∈ is, i ∈ vs) → L2.wipe σ' vs = L2.wipe σ vs
theorem WpEq.trans {is js : List Nat} {a b c : L2.St} (h : WpEq is b a) (g : WpEq js c b) : WpEq (is ++ js) c a := fun vs hv =>
  (g vs fun i hi => hv i (List.mem_append_right _ hi)).trans (h vs fun i hi => hv i (List.mem_append_left _ hi))
theorem wipe_set (σ : L2.St) (i : Nat) (x : Option V) : ∀ vs : List Nat, L2.wipe (σ.set i x) vs = if i ∈ vs then L2.wipe σ vs else (L2.wipe σ vs).set i x
  | [] => by simp [L2.wipe]
  | v :: vs => by
    unfold L2.wipe
    rw [wipe_set σ i x vs]
    by_cases h : i ∈ vs
    · rw [if_pos h, if_pos (List.mem_cons_of_mem _ h)]
    · rw [if_neg h]
      by_cases e : i = v
      · subst e
        rw [if_pos (List.mem_cons_self ..), List.set_set]
      · rw [if_neg (by simp [e, h]), List.set_comm _ _ e]
theorem WpEq.set (σ : L2.St) (i : Nat) (x : Option V) : WpEq [i] (σ.set i x) σ := fun vs h => by
  rw [wipe_set, if_pos (h i (List.mem_cons_self ..))]
def tTg (K : PySem.W.Frag) (is : List Nat) (g : PyData → Ro → Option Ro) : TG := fun v σ H Q =>
  ∃ (B : Hp) (F0 F : Rg) (ρ : Ro) (d : PyData), Ste K B F0 F H σ ρ ∧ Rp K F H v d ∧ ∃ ρ', g d ρ = some ρ' ∧ ∀ σ', Ste K B F0 F H σ' ρ' → WpEq is σ' σ → Q σ' H
def tTgs (K : PySem.W.Frag) (is : List Nat) (g : List PyData → Ro → Option Ro) : TGs := fun vs σ H Q =>
  ∃ (B : Hp) (F0 F : Rg) (ρ : Ro) (ds : List PyData), Ste K B F0 F H σ ρ ∧ Rps K F H vs ds ∧ ∃ ρ', g ds ρ = some ρ' ∧ ∀ σ', Ste K B F0 F H σ' ρ' → WpEq is σ' σ → Q σ' H
theorem _root_.L2.PG.imp {X : Cx} {e : Expr} {t t' : TG} (h : PG X e t) (i : ∀ v σ H Q, t' v σ H Q → t v σ H Q) : PG X e t' := ⟨fun pins s σ H v u Q I r q => h.run pins s σ H v u Q I r (i v σ H Q q)⟩
theorem _root_.L2.PG.or {X : Cx} {e : Expr} {t t' : TG} (h : PG X e t) (h' : PG X e t') : PG X e (fun v σ H Q => t v σ H Q ∨ t' v σ H Q) := ⟨fun pins s σ H v u Q I r q => q.elim (h.run pins s σ H v u Q I r) (h'.run pins s σ H v u Q I r)⟩
theorem _root_.L2.PGs.imp {X : Cx} {e : List Expr} {t t' : TGs} (h : PGs X e t) (i : ∀ v σ H Q, t' v σ H Q → t v σ H Q) : PGs X e t' := ⟨fun pins s σ H v u Q I r q => h.run pins s σ H v u Q I r (i v σ H Q q)⟩
def gSet (i : Nat) : PyData → Ro → Option Ro := fun d ρ => some (ρ.set i (.val d))
def gsNil : List PyData → Ro → Option Ro := fun ds ρ => match ds with
  | [] => some ρ
  | _ => none
def gsCons (g : PyData → Ro → Option Ro) (gs : List PyData → Ro → Option Ro) : List PyData → Ro → Option Ro := fun ds ρ => match ds with
  | [] => none
  | d :: ds => (g d ρ).bind (gs ds)
def gUnp (gs : List PyData → Ro → Option Ro) : PyData → Ro → Option Ro := fun d ρ => match d with
  | .tuple ds => gs ds ρ
  | .list ds => gs ds ρ
  | _ => none
section
variable {X : Cx} {K : PySem.W.Frag} {pos : Pos}
theorem pf_gname (i : Nat) {x : Str} (hN : X.N.Nodup) (hi : X.N[i]? = some x) (hx : Loc X.env.scope x) (hf : X.fn x = true ∨ X.env.scope.names.lookup x = some .local := by first | exact .inl rfl | exact .inr rfl | assumption) : PG X (.Name x pos) (tTg K [i] (gSet i)) :=
  (pg_name hN hi hx hf).imp fun v σ H Q ⟨B, F0, F, ρ, d, S, r, ρ', e, h⟩ => by
    cases e
    exact h _ (S.set_val r) (WpEq.set _ _ _)
theorem pf_gnil : PGs X [] (tTgs K [] gsNil) := pgs_nil.imp fun vs σ H Q ⟨B, F0, F, ρ, ds, S, r, ρ', e, h⟩ => by
  cases r with
  | nil => cases e; exact ⟨rfl, h σ S fun vs _ => rfl⟩
  | cons a b => cases e
theorem pf_gcons {e : Expr} {es : List Expr} {is js : List Nat} {g : PyData → Ro → Option Ro} {gs : List PyData → Ro → Option Ro} (h1 : PG X e (tTg K is g)) (h2 : PGs X es (tTgs K js gs))
    (hs : (assignEach (e :: es) X.env).map (·.2) = assign e X.env :: (assignEach es X.env).map (·.2) := by rfl) : PGs X (e :: es) (tTgs K (is ++ js) (gsCons g gs)) := (pgs_cons h1 h2 hs).imp fun vs σ H Q ⟨B, F0, F, ρ, ds, S, r, ρ', e, h⟩ => by
  cases r with
  | nil => cases e
  | cons a b =>
    unfold gsCons at e
    obtain ⟨ρ1, e1, e2⟩ := Option.bind_eq_some_iff.mp e
    refine ⟨_, _, rfl, B, F0, F, ρ, _, S, a, ρ1, e1, fun σ1 S1 w1 => ?_⟩
    exact ⟨B, F0, F, ρ1, _, S1, b, ρ', e2, fun σ2 S2 w2 => h σ2 S2 (w1.trans w2)⟩
theorem gsCons_len {gs : List PyData → Ro → Option Ro} {g : PyData → Ro → Option Ro} {n : Nat} (h : ∀ ds ρ ρ', gs ds ρ = some ρ' → ds.length = n) : ∀ ds ρ ρ', gsCons g gs ds ρ = some ρ' → ds.length = n + 1 := fun ds ρ ρ' e => by
  cases ds with
  | nil => cases e
  | cons d ds =>
    obtain ⟨ρ1, e1, e2⟩ := Option.bind_eq_some_iff.mp e
    rw [List.length_cons, h ds ρ1 ρ' e2]
theorem gsNil_len : ∀ ds ρ ρ', gsNil ds ρ = some ρ' → ds.length = 0 := fun ds ρ ρ' e => by
  cases ds with
  | nil => rfl
  | cons d ds => cases e
theorem pf_gtup {es : List Expr} {k : Nat} {is : List Nat} {gs : List PyData → Ro → Option Ro} {n : Nat} (hK : X.K = K) (hc : X.calm = true) (h : PGs X es (tTgs K is gs)) (hl : ∀ ds ρ ρ', gs ds ρ = some ρ' → ds.length = n)
    (hn : (assignEach es X.env).length = n := by rfl) (hst : (assignEach es X.env).findIdx? (·.1) = none := by rfl) : PG X (.Tuple es k pos) (tTg K is (gUnp gs)) :=
  ((pg_tup hc h hn hst).or (pg_lst hc h hn hst)).imp fun v σ H Q ⟨B, F0, F, ρ, d, S, r, ρ', e, h⟩ => by
    subst hK
    cases d with
    | tuple ds =>
      obtain ⟨a, xs, rfl, hq, rr⟩ := (RpB.rp r).tuple
      exact .inl ⟨a, xs, rfl, hq, by rw [rr.length]; exact hl _ _ _ e, B, F0, F, ρ, ds, S, rr, ρ', e, h⟩
    | list ds =>
      obtain ⟨a, xs, rfl, hq, rr⟩ := (RpB.rp r).list
      exact .inr ⟨a, xs, rfl, SqL.of hq, by rw [rr.length]; exact hl _ _ _ e, B, F0, F, ρ, ds, S, rr, ρ', e, h⟩
    | _ => cases e

/-! ### comprehensions -/
def compF (g : PyData → Ro → Option Ro) (c : Ro → Res Bool) (f : Ro → Res PyData) (ρ : Ro) : List PyData → Option (List PyData)
  | [] => some []
  | d :: ds => (g d ρ).bind fun ρ1 => (c ρ1).opt.bind fun b => if b = true then (f ρ1).opt.bind fun y => (compF g c f ρ ds).map (y :: ·) else compF g c f ρ ds
def eComp (own : List Nat) (fi : Ro → Res (List PyData)) (g : PyData → Ro → Option Ro) (c : Ro → Res Bool) (f : Ro → Res PyData) : Ro → Res (List PyData) := fun ρ => (fi ρ).bind fun ds => ofO (compF g c f (wipeR ρ own) ds)
def eTrue : Ro → Res Bool := fun _ => .ok true
theorem pf_tyes {mg : Str → Option Value} {W : WX} : PTs X [] (tTs K mg W eTrue) := ⟨fun pins s σ H Q I ⟨B, F0, F, ρ, S, p⟩ => pts_nil.run pins s σ H Q I (p F H Stp.refl)⟩
theorem pf_tone {mg : Str → Option Value} {W : WX} {c : Expr} {f : Ro → Res Bool} (h : PT X c (tTs K mg W f)) : PTs X [c] (tTs K mg W f) := pts_one h
theorem opt_some {α : Type} {r : Res α} {a : α} (h : r.opt = some a) : r = .ok a := by
  cases r with
  | ok b => cases h; rfl
  | exc c k => cases h
  | bad => cases h
variable {mg : Str → Option Value} {W : WX}
theorem tLc_of {fi : Ro → Res (List PyData)} {g : PyData → Ro → Option Ro} {c : Ro → Res Bool} {f : Ro → Res PyData} {own is : List Nat} (his : ∀ i ∈ is, i ∈ own) {σ : L2.St} {H : Hp} {Q : VK} (h : tN K mg W (eComp own fi g c f) σ H Q) :
    tLc (tI K mg W true fi) (tTg K is g) (tTs K mg W0 c) (tF K mg W0 f) own σ H Q := by
  obtain ⟨B, F0, F, ρ, S, p⟩ := h
  refine ⟨B, F0, F, ρ, S, ?_⟩
  unfold eComp at p
  cases ei : fi ρ with
  | exc c k => rw [ei] at p; exact p
  | bad => rw [ei] at p; exact p
  | ok ds =>
    rw [ei] at p
    obtain ⟨zs, ez, q⟩ := PostE.ofO (r := compF g c f (wipeR ρ own) ds) p
    intro J F1 H1 st G D hD
    -- the word: the turn, what stands at D, the rest
    refine ⟨fun i m H2 => m = ds.length - i ∧ i ≤ ds.length ∧ ∃ (F2 : Rg) (acc : List V) (done : List PyData) (rest : List PyData), Stp F1 H1 F2 H2 ∧ ¬ F2 D ∧ H2 D = some (.lst acc) ∧ acc.length ≤ i ∧ Rps K F2 H2 acc done ∧
      compF g c f (wipeR ρ own) (ds.drop i) = some rest ∧ zs = done ++ rest, ⟨ds.length, by simp, Nat.zero_le _, F1, [], [], zs, Stp.lay hD, fun z => (S.stp st).trk D z hD, upd_same, Nat.le_refl _, .nil, by simpa using ez, rfl⟩, ?_⟩
    rintro i m H2 ⟨rfl, hi, F2, acc, done, rest, s2, nF, hDl, hal, ra, hrest, hz⟩
    have kp : Kept true F1 H1 F2 H2 := ⟨s2.sub, fun a _ o e => s2.keep a o e⟩
    by_cases hlt : i < ds.length
    · obtain ⟨g1, g2⟩ := G.go i ds[i] F2 H2 (by simp [hlt]) kp
      refine .inr ⟨g1, fun H' => ∃ (F3 : Rg) (acc : List V) (done : List PyData) (rest : List PyData), Stp F1 H1 F3 H' ∧ ¬ F3 D ∧ H' D = some (.lst acc) ∧ acc.length ≤ i + 1 ∧ Rps K F3 H' acc done ∧
        compF g c f (wipeR ρ own) (ds.drop (i + 1)) = some rest ∧ zs = done ++ rest, fun H' hh => ⟨ds.length - (i + 1), by omega, rfl, hlt, hh⟩, fun x H3 y => ?_⟩
      obtain ⟨F3, st3, rx⟩ := g2 x H3 y
      have S3 : Ste K B F0 F3 H3 (L2.wipe σ own) (wipeR ρ own) := ((S.stp (st.trans (s2.trans st3))).wipe own)
      rw [List.drop_eq_getElem_cons hlt] at hrest
      unfold compF at hrest
      obtain ⟨ρ1, e1, hrest⟩ := Option.bind_eq_some_iff.mp hrest
      refine ⟨B, F0, F3, wipeR ρ own, ds[i], S3, rx, ρ1, e1, fun σ2 S4 w => ⟨?_, ?_⟩⟩
      · have hw := w own his
        rw [hw]
        clear hw w S4
        have idem : ∀ (vs ws : List Nat), (∀ v ∈ vs, v ∈ ws) → L2.wipe (L2.wipe σ ws) vs = L2.wipe σ ws := by
          intro vs
          induction vs with
          | nil => intro ws _; rfl
          | cons v vs ih =>
            intro ws hv
            show (L2.wipe (L2.wipe σ ws) vs).set v none = L2.wipe σ ws
            rw [ih ws fun u hu => hv u (List.mem_cons_of_mem _ hu)]
            have hvw := hv v (List.mem_cons_self ..)
            have := wipe_set σ v none ws
            rw [if_pos hvw] at this
            have key : ∀ ws : List Nat, v ∈ ws → (L2.wipe σ ws).set v none = L2.wipe σ ws := by
              intro ws
              induction ws with
              | nil => intro h; cases h
              | cons w ws ih2 =>
                intro h
                unfold L2.wipe
                by_cases e : v = w
                · subst e; rw [List.set_set]
                · rw [List.set_comm _ _ (Ne.symm e)]
                  rcases List.mem_cons.mp h with e2 | h2
                  · exact absurd e2 e
                  · rw [ih2 h2]
            exact key ws hvw
        exact idem own own fun _ h => h
      · obtain ⟨b, eb, hrest⟩ := Option.bind_eq_some_iff.mp hrest
        refine ⟨B, F0, F3, ρ1, S4, ?_⟩
        rw [opt_some eb]
        intro F4 H4 st4
        have s24 := st3.trans st4
        have nF4 : ¬ F4 D := fun z => (s24.new D z).elim nF fun z => by have := z.1; rw [hDl] at this; cases this
        cases b with
        | false =>
          rw [if_neg (by decide)] at hrest ⊢
          exact ⟨F4, acc, done, rest, s2.trans s24, nF4, s24.keep _ _ hDl, by omega, ra.stp s24, hrest, hz⟩
        | true =>
          rw [if_pos rfl] at hrest ⊢
          obtain ⟨y, ey, hrest⟩ := Option.bind_eq_some_iff.mp hrest
          refine ⟨B, F0, F4, ρ1, S4.stp st4, ?_⟩
          rw [opt_some ey]
          intro F5 H5 v st5 ry
          have s25 := s24.trans st5
          have hD5 : H5 D = some (.lst acc) := s25.keep _ _ hDl
          refine ⟨acc, hD5, by have := G.len; rw [sizeLine_eq]; omega, ?_⟩
          cases er : compF g c f (wipeR ρ own) (ds.drop (i + 1)) with
          | none => rw [er] at hrest; cases hrest
          | some r2 =>
            rw [er] at hrest
            cases hrest
            have nF5 : ¬ F5 D := fun z => (s25.new D z).elim nF fun z => by have := z.1; rw [hDl] at this; cases this
            have fk : FK F5 H5 F5 (upd H5 D (.lst (acc ++ [v]))) := ⟨fun _ h => h, fun b hb o e => by rw [upd_ne (show b ≠ D from fun z => by rw [z] at hb; exact nF5 hb)]; exact e⟩
            have s15 := s2.trans s25
            refine ⟨F5, acc ++ [v], done ++ [y], r2, ⟨s15.sub, fun b o e => ?_, fun b hb => (s15.new b hb).imp id fun z => ⟨z.1, ?_⟩⟩, nF5, upd_same, by simp; omega, (((ra.stp s25).append (.cons ry .nil))).fk fk, rfl, by rw [hz]; simp⟩
            · rw [upd_ne (ne_of_none e hD)]; exact s15.keep b o e
            · by_cases e : b = D
              · rw [e, upd_same]; simp
              · rw [upd_ne e]; exact z.2
    · have e : i = ds.length := by omega
      subst e
      refine .inl ⟨G.stop F2 H2 kp, ?_⟩
      rw [List.drop_length] at hrest
      cases hrest
      rw [List.append_nil] at hz
      subst hz
      exact q F2 H2 _ (st.trans s2) ⟨D, acc, rfl, st.keep.free hD, nF, hDl, ra⟩
/-- [e for x in .. if ..] -/
theorem pf_lc {elt tg iter : Expr} {ifs : List Expr} {scope : Scope} {own : List (Str × Nat)} {is : List Nat} {fi : Ro → Res (List PyData)} {g : PyData → Ro → Option Ro} {c : Ro → Res Bool} {f : Ro → Res PyData} (hc : X.calm = true) (hN : X.N.Nodup) (hi : PI X tg iter (tI K mg W true fi)) (ok : BlkOk X.N X.env.scope scope own)
    (hg : ∀ (s : Shared) (H : Hp) (C : Addr) (cl : List (Str × Addr)) (fp : List Addr), PG (X.blk s H scope (compEnvC scope cl C X.env) fp) tg (tTg K is g)) (ht : ∀ (s : Shared) (H : Hp) (C : Addr) (cl : List (Str × Addr)) (fp : List Addr), PTs (X.blk s H scope (compEnvC scope cl C X.env) fp) ifs (tTs K mg W0 c))
    (he : ∀ (s : Shared) (H : Hp) (C : Addr) (cl : List (Str × Addr)) (fp : List Addr), PE (X.blk s H scope (compEnvC scope cl C X.env) fp) elt (tF K mg W0 f)) (his : ∀ i ∈ is, i ∈ own.map (·.2) := by decide) (hs : ∀ x, foldedSetIterable iter X.env x = pure x := by intro _; rfl) :
    PE X (.ListComp elt [⟨tg, iter, ifs, 0⟩] scope pos) (tN K mg W (eComp (own.map (·.2)) fi g c f)) := (pe_lc hc hN hi ok hg ht he hs).imp fun _ _ _ h => tLc_of his h
end
end Pf
/-! Pf5: statements, defs. -/
namespace Pf
open PySem PySem.Spec PyProof.Rows L2

inductive Out where
  | nx (ρ : Ro)
  | ret (d : PyData)
  | bk (ρ : Ro)
  | ct (ρ : Ro)
  | exc (c : Str) (k : Int)
  | bad
def Out.seq : Out → (Ro → Out) → Out
  | .nx ρ, f => f ρ
  | .ret d, _ => .ret d
  | .bk ρ, _ => .bk ρ
  | .ct ρ, _ => .ct ρ
  | .exc c k, _ => .exc c k
  | .bad, _ => .bad
@[simp] theorem Out.seq_nx (ρ : Ro) (f : Ro → Out) : (Out.nx ρ).seq f = f ρ := rfl
@[simp] theorem Out.seq_ret (d : PyData) (f : Ro → Out) : (Out.ret d).seq f = .ret d := rfl
@[simp] theorem Out.seq_bk (ρ : Ro) (f : Ro → Out) : (Out.bk ρ).seq f = .bk ρ := rfl
@[simp] theorem Out.seq_ct (ρ : Ro) (f : Ro → Out) : (Out.ct ρ).seq f = .ct ρ := rfl
@[simp] theorem Out.seq_exc (c : Str) (k : Int) (f : Ro → Out) : (Out.exc c k).seq f = .exc c k := rfl
@[simp] theorem Out.seq_bad (f : Ro → Out) : Out.bad.seq f = .bad := rfl
/-- from an answer on -/
def Res.out {α : Type} : Res α → (α → Out) → Out
  | .ok a, f => f a
  | .exc c k, _ => .exc c k
  | .bad, _ => .bad
@[simp] theorem Res.out_ok {α : Type} (a : α) (f : α → Out) : (Res.ok a).out f = f a := rfl
@[simp] theorem Res.out_exc {α : Type} (c : Str) (k : Int) (f : α → Out) : (Res.exc c k : Res α).out f = .exc c k := rfl
@[simp] theorem Res.out_bad {α : Type} (f : α → Out) : (Res.bad : Res α).out f = .bad := rfl

def PostS (K : PySem.W.Frag) (mg : Str → Option Value) (W : WX) (B : Hp) (F0 F : Rg) (H : Hp) (D : Ends) : Out → Prop
  | .nx ρ' => ∀ σ' F' H', Ste K B F0 F' H' σ' ρ' → FK F H F' H' → D.nx σ' H'
  | .bk ρ' => ∀ σ' F' H', Ste K B F0 F' H' σ' ρ' → FK F H F' H' → D.bk σ' H'
  | .ct ρ' => ∀ σ' F' H', Ste K B F0 F' H' σ' ρ' → FK F H F' H' → D.ct σ' H'
  | .ret d => ∀ v F' H', Stp F0 B F' H' → Rp K F' H' v d → D.rt v H'
  | .exc c k => ∀ (σ' : L2.St) (H' : Hp) (dx C : Addr), Same B H' → H' dx = some (.xd [("at", .int k)]) → mg c = some (.ref C) → W (.ref C) (some dx) σ' H'
  | .bad => False
def tS (K : PySem.W.Frag) (mg : Str → Option Value) (W : WX) (g : Ro → Out) : TS := fun D σ H =>
  ∃ (B : Hp) (F0 F : Rg) (ρ : Ro), Ste K B F0 F H σ ρ ∧ PostS K mg W B F0 F H D (g ρ)
section
variable {K : PySem.W.Frag} {mg : Str → Option Value} {W : WX} {B : Hp} {F0 F F1 : Rg} {H H1 : Hp} {D : Ends} {σ : L2.St} {ρ : Ro}
theorem PostS.fk {o : Out} (k : FK F H F1 H1) (h : PostS K mg W B F0 F H D o) : PostS K mg W B F0 F1 H1 D o := by
  cases o with
  | nx ρ' => exact fun σ' F' H' s q => h σ' F' H' s (k.trans q)
  | bk ρ' => exact fun σ' F' H' s q => h σ' F' H' s (k.trans q)
  | ct ρ' => exact fun σ' F' H' s q => h σ' F' H' s (k.trans q)
  | ret d => exact h
  | exc c k => exact h
  | bad => exact h
theorem PostE.of_out {α : Type} {P : α → Prop} {r : Res α} {f : α → Out} (S : Ste K B F0 F H σ ρ) (p : PostS K mg W B F0 F H D (r.out f)) (h : ∀ a, r = .ok a → PostS K mg W B F0 F H D (f a) → P a) : PostE mg W σ H P r := by
  cases r with
  | ok a => exact h a rfl p
  | exc c k => exact fun H' dx C s e1 e2 => p σ H' dx C (S.same.trans s) e1 e2
  | bad => exact p
theorem Ste.out {F' : Rg} {H' : Hp} (S : Ste K B F0 F H σ ρ) (s : Stp F H F' H') : Stp F0 B F' H' where
  sub := fun a h => s.sub a (S.sub a h)
  keep := S.same.trans s.keep
  new := fun a h => (s.new a h).elim (fun q => (S.reg a q).imp id fun z => ⟨z, Same.some s.keep (S.trk a q)⟩) fun q => .inr ⟨S.same.free q.1, q.2⟩
end
theorem _root_.L2.PS.imp {X : Cx} {e : Stmt} {t t' : TS} (h : PS X e t) (i : ∀ D σ H, t' D σ H → t D σ H) : PS X e t' := ⟨fun pins s σ H D I q => h.run pins s σ H D I (i D σ H q)⟩
theorem _root_.L2.PSs.imp {X : Cx} {e : List Stmt} {t t' : TS} (h : PSs X e t) (i : ∀ D σ H, t' D σ H → t D σ H) : PSs X e t' := ⟨fun pins s σ H D I q => h.run pins s σ H D I (i D σ H q)⟩

/-! ### plain functions -/
def sPass : Ro → Out := .nx
def sSeq (g h : Ro → Out) : Ro → Out := fun ρ => (g ρ).seq h
def sSet (i : Nat) (f : Ro → Res PyData) : Ro → Out := fun ρ => (f ρ).out fun d => .nx (ρ.set i (.val d))
def sSetN (i : Nat) (f : Ro → Res (List PyData)) : Ro → Out := fun ρ => (f ρ).out fun d => .nx (ρ.set i (.own d))
def oNx : Option Ro → Out
  | some ρ => .nx ρ
  | none => .bad
@[simp] theorem oNx_some (ρ : Ro) : oNx (some ρ) = .nx ρ := rfl
@[simp] theorem oNx_none : oNx none = .bad := rfl
def sAsg (g : PyData → Ro → Option Ro) (f : Ro → Res PyData) : Ro → Out := fun ρ => (f ρ).out fun d => oNx (g d ρ)
def sPar (i j : Nat) (fs : Ro → Res (List PyData)) : Ro → Out := fun ρ => (fs ρ).out fun ds => match ds with
  | [d, e] => .nx ((ρ.set i (.val d)).set j (.val e))
  | _ => .bad
def sPar3 (i j l : Nat) (fs : Ro → Res (List PyData)) : Ro → Out := fun ρ => (fs ρ).out fun ds => match ds with
  | [d, e, u] => .nx (((ρ.set i (.val d)).set j (.val e)).set l (.val u))
  | _ => .bad
def sExpr (f : Ro → Res PyData) : Ro → Out := fun ρ => (f ρ).out fun _ => .nx ρ
def sApp (i : Nat) (f : Ro → Res PyData) : Ro → Out := fun ρ => match ρ[i]? with
  | some (.own ds) => (f ρ).out fun d => if ds.length < 16777216 then .nx (ρ.set i (.own (ds ++ [d]))) else .bad
  | _ => .bad
def sPut (i : Nat) (fi f : Ro → Res PyData) : Ro → Out := fun ρ => match ρ[i]? with
  | some (.own ds) => (f ρ).out fun d => (fi ρ).out fun x => (match x with
    | .int k => (match ixN ds.length k with
      | some j => .nx (ρ.set i (.own (ds.set j d)))
      | none => .bad)
    | _ => .bad)
  | _ => .bad
def sRet (f : Ro → Res PyData) : Ro → Out := fun ρ => (f ρ).out .ret
def sRetN : Ro → Out := fun _ => .ret .none
def sIf (c : Ro → Res Bool) (g h : Ro → Out) : Ro → Out := fun ρ => (c ρ).out fun b => if b = true then g ρ else h ρ
def sFrz (is : List Nat) (g : Ro → Out) : Ro → Out := fun ρ => g (frz is ρ)
def forF (g : PyData → Ro → Option Ro) (b : Ro → Out) : List PyData → Ro → Out
  | [], ρ => .nx ρ
  | d :: ds, ρ => (oNx (g d ρ)).seq fun ρ1 => match b ρ1 with
    | .nx ρ2 => forF g b ds ρ2
    | .ct ρ2 => forF g b ds ρ2
    | .bk ρ2 => .nx ρ2
    | o => o
def sFor (fi : Ro → Res (List PyData)) (g : PyData → Ro → Option Ro) (b : Ro → Out) : Ro → Out := fun ρ => (fi ρ).out fun ds => forF g b ds ρ
def whF (c : Ro → Res Bool) (b : Ro → Out) : Nat → Ro → Out
  | 0, _ => .bad
  | n + 1, ρ => (c ρ).out fun k => if k = true then (match b ρ with
    | .nx ρ2 => whF c b n ρ2
    | .ct ρ2 => whF c b n ρ2
    | .bk ρ2 => .nx ρ2
    | o => o) else .nx ρ
def sWhile (n : Nat) (c : Ro → Res Bool) (b : Ro → Out) : Ro → Out := whF c b n
def sRaise (c : Str) (f : Ro → Res PyData) : Ro → Out := fun ρ => (f ρ).out fun d => match d with
  | .int k => .exc c k
  | _ => .bad
/-- handlers: the class's name, what is handed back -/
def hdl : List (Str × (Int → PyData)) → Str → Int → Out
  | [], c, k => .exc c k
  | (x, h) :: r, c, k => if c = x then .ret (h k) else hdl r c k
def sTry (g : Ro → Out) (hs : List (Str × (Int → PyData))) : Ro → Out := fun ρ => match g ρ with
  | .exc c k => hdl hs c k
  | o => o
def outR : Out → Res PyData
  | .nx _ => .ok .none
  | .ret d => .ok d
  | .exc c k => .exc c k
  | _ => .bad
@[simp] theorem outR_nx (ρ : Ro) : outR (.nx ρ) = .ok .none := rfl
@[simp] theorem outR_ret (d : PyData) : outR (.ret d) = .ok d := rfl
@[simp] theorem outR_exc (c : Str) (k : Int) : outR (.exc c k) = .exc c k := rfl
@[simp] theorem outR_bad : outR .bad = .bad := rfl
/-- a def of n parameters and j further names -/
def mDef (n j : Nat) (g : Ro → Out) : List PyData → Res PyData := fun ds => if ds.length = n then outR (g (ds.map .val ++ List.replicate j .un)) else .bad

section
variable {X : Cx} {K : PySem.W.Frag} {mg : Str → Option Value} {W : WX} {pos : Pos}
theorem ps_nil : PSs X [] (tS K mg W sPass) := pss_nil.imp fun D σ H ⟨B, F0, F, ρ, S, p⟩ => p σ F H S FK.refl
theorem ps_seq {st : Stmt} {rest : List Stmt} {g h : Ro → Out} (h1 : PS X st (tS K mg W g)) (h2 : PSs X rest (tS K mg W h)) : PSs X (st :: rest) (tS K mg W (sSeq g h)) :=
  (pss_cons h1 h2).imp fun D σ H ⟨B, F0, F, ρ, S, p⟩ => by
    refine ⟨B, F0, F, ρ, S, ?_⟩
    unfold sSeq at p
    cases e : g ρ with
    | nx ρ' => rw [e] at p; exact fun σ' F' H' S' k => ⟨B, F0, F', ρ', S', p.fk k⟩
    | ret d => rw [e] at p; exact p
    | bk ρ' => rw [e] at p; exact p
    | ct ρ' => rw [e] at p; exact p
    | exc c k => rw [e] at p; exact p
    | bad => rw [e] at p; exact p
theorem ps_1 {st : Stmt} {g : Ro → Out} (h1 : PS X st (tS K mg W g)) : PSs X [st] (tS K mg W g) := pss_one h1
theorem pq_pass : PS X (.Pass pos) (tS K mg W sPass) := ps_pass.imp fun D σ H ⟨B, F0, F, ρ, S, p⟩ => p σ F H S FK.refl
theorem pq_break : PS X (.Break pos) (tS K mg W .bk) := ps_break.imp fun D σ H ⟨B, F0, F, ρ, S, p⟩ => p σ F H S FK.refl
theorem pq_continue : PS X (.Continue pos) (tS K mg W .ct) := ps_continue.imp fun D σ H ⟨B, F0, F, ρ, S, p⟩ => p σ F H S FK.refl
theorem pq_set {i : Nat} {x : Str} {e : Expr} {f : Ro → Res PyData} {pos' : Pos} (hN : X.N.Nodup) (hi : X.N[i]? = some x) (hx : Loc X.env.scope x) (he : PE X e (tF K mg W f)) (hs : swapsWith e (some (.Name x pos')) pos.line X.env = pure false := by rfl) (hf : X.fn x = true ∨ X.env.scope.names.lookup x = some .local := by first | exact .inl rfl | exact .inr rfl | assumption) :
    PS X (.Assign [.Name x pos'] e pos) (tS K mg W (sSet i f)) := (ps_set hN hi hx he hs hf).imp fun D σ H ⟨B, F0, F, ρ, S, p⟩ =>
  ⟨B, F0, F, ρ, S, PostE.of_out S p fun d _ q F' H' v st r => q _ F' H' ((S.stp st).set_val r) st.fk⟩
theorem set_own_of {i : Nat} {B : Hp} {F0 F F' : Rg} {H H' : Hp} {σ : L2.St} {ρ : Ro} {a : Addr} {xs : List V} {ds : List PyData} (S : Ste K B F0 F H σ ρ) (st : Stp F H F' H') (hn : H a = none) (nf : ¬ F' a) (ha : H' a = some (.lst xs)) (r : Rps K F' H' xs ds) : Ste K B F0 F' H' (σ.set i (some (.ref a))) (ρ.set i (.own ds)) :=
  (S.stp st).set_own nf (S.same.free hn) ha r fun j es _ e z => by
    obtain ⟨b, ys, h1, _, _, h4, _⟩ := S.own j es e
    rw [h1] at z
    cases z
    rw [hn] at h4
    cases h4
theorem pq_setN {i : Nat} {x : Str} {e : Expr} {f : Ro → Res (List PyData)} {pos' : Pos} (hN : X.N.Nodup) (hi : X.N[i]? = some x) (hx : Loc X.env.scope x) (he : PE X e (tN K mg W f)) (hs : swapsWith e (some (.Name x pos')) pos.line X.env = pure false := by rfl) (hf : X.fn x = true ∨ X.env.scope.names.lookup x = some .local := by first | exact .inl rfl | exact .inr rfl | assumption) :
    PS X (.Assign [.Name x pos'] e pos) (tS K mg W (sSetN i f)) := (ps_set hN hi hx he hs hf).imp fun D σ H ⟨B, F0, F, ρ, S, p⟩ =>
  ⟨B, F0, F, ρ, S, PostE.of_out S p fun ds _ q F' H' v st ⟨a, xs, ev, hn, nf, ha, r⟩ => by subst ev; exact q _ F' H' (set_own_of S st hn nf ha r) st.fk⟩
/-- y = [..] on one line, the name a local -/
theorem pq_setLc {own : Bool} {i : Nat} {y : Str} {py : Pos} {elt tg iter : Expr} {ifs : List Expr} {scope : Scope} {ow : List (Str × Nat)} {is : List Nat} {spos : Pos} {fi : Ro → Res (List PyData)} {g : PyData → Ro → Option Ro} {c : Ro → Res Bool} {f : Ro → Res PyData} (hc : X.calm = true) (hN : X.N.Nodup) (hy : X.N[i]? = some y) (hyl : X.env.scope.names.lookup y = some .local)
    (hsw : swapsWith (.ListComp elt [⟨tg, iter, ifs, 0⟩] scope pos) (some (.Name y py)) spos.line X.env = pure true) (hi : PI X tg iter (tI K mg W true fi)) (ok : BlkOk X.N X.env.scope scope ow)
    (hg : ∀ (s : Shared) (H : Hp) (C : Addr) (cl : List (Str × Addr)) (fp : List Addr), PG (X.blk s H scope (compEnvC scope cl C X.env) fp) tg (tTg K is g)) (ht : ∀ (s : Shared) (H : Hp) (C : Addr) (cl : List (Str × Addr)) (fp : List Addr), PTs (X.blk s H scope (compEnvC scope cl C X.env) fp) ifs (tTs K mg W0 c))
    (he : ∀ (s : Shared) (H : Hp) (C : Addr) (cl : List (Str × Addr)) (fp : List Addr), PE (X.blk s H scope (compEnvC scope cl C X.env) fp) elt (tF K mg W0 f)) (his : ∀ i ∈ is, i ∈ ow.map (·.2) := by decide) (hs : ∀ x, foldedSetIterable iter X.env x = pure x := by intro _; rfl) :
    PS X (.Assign [.Name y py] (.ListComp elt [⟨tg, iter, ifs, 0⟩] scope pos) spos) (tS K mg W (if own = true then sSetN i (eComp (ow.map (·.2)) fi g c f) else sSet i (e1 listD (eComp (ow.map (·.2)) fi g c f)))) :=
  (ps_setLc hc hN hy hyl hsw hi ok hg ht he hs).imp fun D σ H ⟨B, F0, F, ρ, S, p⟩ => by
    refine tLc_of his ⟨B, F0, F, ρ, S, ?_⟩
    cases own with
    | true => exact PostE.of_out S p fun ds _ q F' H' v st ⟨a, xs, ev, hn, nf, ha, r⟩ => by subst ev; exact q _ F' H' (set_own_of S st hn nf ha r) st.fk
    | false =>
      have p2 : PostS K mg W B F0 F H D ((eComp (ow.map (·.2)) fi g c f ρ).out fun ds => .nx (ρ.set i (.val (.list ds)))) := by
        rw [if_neg (by decide)] at p
        unfold sSet e1 at p
        cases e : eComp (ow.map (·.2)) fi g c f ρ with
        | _ => rw [e] at p; exact p
      refine PostE.of_out S p2 fun ds _ q F' H' v st ⟨a, xs, ev, hn, nf, ha, r⟩ => ?_
      subst ev
      have s2 : Stp F H (fun b => F' b ∨ b = a) H' := ⟨fun b h => .inl (st.sub b h), st.keep, fun b h => h.elim (fun z => st.new b z) fun z => .inr (by rw [z]; exact ⟨hn, by rw [ha]; simp⟩)⟩
      exact q _ _ H' ((S.stp s2).set_val (.lst (.inr rfl) ha (r.fk ⟨fun _ h => .inl h, fun _ _ _ h => h⟩))) s2.fk
theorem pq_asg {tg e : Expr} {is : List Nat} {g : PyData → Ro → Option Ro} {f : Ro → Res PyData} (he : PE X e (tF K mg W f)) (hg : PG X tg (tTg K is g)) (hs : swapsWithSole [tg] e pos.line X.env = pure false := by rfl) (hw : swappedStores [tg] e X.env = pure none := by rfl)
    (h1 : (assignEach [tg] X.env).map (·.2) = [assign tg X.env] := by rfl) : PS X (.Assign [tg] e pos) (tS K mg W (sAsg g f)) := (ps_asg he hg hs hw h1).imp fun D σ H ⟨B, F0, F, ρ, S, p⟩ => by
  refine ⟨B, F0, F, ρ, S, PostE.of_out S p fun d _ q F' H' v st r => ?_⟩
  cases e : g d ρ with
  | none => rw [e] at q; exact q.elim
  | some ρ' => rw [e] at q; exact ⟨B, F0, F', ρ, d, S.stp st, r, ρ', e, fun σ' S' _ => q σ' F' H' S' st.fk⟩
theorem pq_par {i j : Nat} {x y : Str} {a b : Expr} {fs : Ro → Res (List PyData)} {px py pt : Pos} {kt k2 pt2} (hc : X.calm = true) (hN : X.N.Nodup) (hi : X.N[i]? = some x) (hj : X.N[j]? = some y) (hij : i ≠ j)
    (hx : X.env.scope.names.lookup x = some .local) (hy : X.env.scope.names.lookup y = some .local) (ha : PA X [a, b] (tAs K mg W fs))
    (hw : swappedStores [.Tuple [.Name x px, .Name y py] kt pt] (.Tuple [a, b] k2 pt2) X.env = pure (some [x, y]) := by rfl)
    (hs : swapsWithSole [.Tuple [.Name x px, .Name y py] kt pt] (.Tuple [a, b] k2 pt2) pos.line X.env = pure false := by rfl) :
    PS X (.Assign [.Tuple [.Name x px, .Name y py] kt pt] (.Tuple [a, b] k2 pt2) pos) (tS K mg W (sPar i j fs)) := (ps_par hc hN hi hj hij hx hy ha hw hs).imp fun D σ H ⟨B, F0, F, ρ, S, p⟩ => by
  refine ⟨B, F0, F, ρ, S, PostE.of_out S p fun ds _ q F' H' vs st r => ?_⟩
  match ds, q with
  | [d, e], q =>
    cases r with
    | cons r1 r =>
      cases r with
      | cons r2 r =>
        cases r
        exact ⟨_, _, rfl, q _ F' H' (((S.stp st).set_val r1).set_val r2) st.fk⟩
  | [], q => exact q.elim
  | [_], q => exact q.elim
  | _ :: _ :: _ :: _, q => exact q.elim
theorem pq_expr {e : Expr} {f : Ro → Res PyData} (he : PE X e (tB K mg W f)) (hs : swapsWith e none pos.line X.env = pure false := by rfl) : PS X (.Expr e pos) (tS K mg W (sExpr f)) := (ps_expr he hs).imp fun D σ H ⟨B, F0, F, ρ, S, p⟩ =>
  ⟨B, F0, F, ρ, S, PostE.of_out S p fun d _ q F' H' v st r => q σ F' H' (S.stp st) st.fk⟩
/-- xs.append(e), xs one's own -/
theorem pq_app {i : Nat} {x : Str} {e : Expr} {f : Ro → Res PyData} {p1 p2 p3 : Pos} (hN : X.N[i]? = some x) (hv : Vis X.env.scope x) (he : PE X e (tF K mg W f))
    (hE : ∀ {to : TE} {t : TA}, PE X (.Name x p1) to → PA X [e] t → PE X (.Call (.Attribute (.Name x p1) "append" p2) [e] [] p3) (tBM X.K "list" rAppend to t)) (hs : swapsWith (.Call (.Attribute (.Name x p1) "append" p2) [e] [] p3) none pos.line X.env = pure false := by rfl)
    (hd : (x == ("__debug__" : Str)) = false := by decide) (hcd : (x == ("__classdict__" : Str)) = false := by decide) (hst : starEach [e] X.env = (false, eval e X.env) :: starEach [] X.env := by rfl) :
    PS X (.Expr (.Call (.Attribute (.Name x p1) "append" p2) [e] [] p3) pos) (tS K mg W (sApp i f)) :=
  (ps_expr (hE (pe_var hN hv hd hcd) (pa_cons he pa_nil hst)) hs).imp fun D σ H ⟨B, F0, F, ρ, S, p⟩ => by
    unfold sApp at p
    split at p
    · rename_i ds ei
      obtain ⟨a, xs, h1, h2, h3, h4, h5⟩ := S.own i ds ei
      refine ⟨_, h1, .inl ⟨rfl, xs, SqL.of h4⟩, B, F0, F, ρ, S, PostE.of_out S p fun d _ q F' H' v st r => ?_⟩
      have h4' := st.keep _ _ h4
      split at q
      · rename_i hl
        have S' := S.stp st
        obtain ⟨W1, k1⟩ := S'.write (ys := xs ++ [v]) (es := ds ++ [d]) ei h1 ((h5.stp st).append (.cons r .nil))
        exact ⟨a, xs, v, rfl, rfl, h4', by rw [h5.length, sizeLine_eq]; exact hl, q σ F' _ W1 (st.fk.trans k1)⟩
      · exact q.elim
    · exact p.elim
/-- xs[e] = e2, xs one's own -/
theorem pq_put {i : Nat} {x : Str} {e1 e : Expr} {fi f : Ro → Res PyData} {p1 p2 : Pos} (hN : X.N[i]? = some x) (hv : Vis X.env.scope x) (hi : PE X e1 (tB K mg W fi)) (he : PE X e (tF K mg W f))
    (hE : ∀ {to ti : TE}, PE X (.Name x p1) to → PE X e1 ti → PG X (.Subscript (.Name x p1) e1 p2) (gSub to ti rSetL)) (hs : swapsWithSole [.Subscript (.Name x p1) e1 p2] e pos.line X.env = pure false := by rfl) (hw : swappedStores [.Subscript (.Name x p1) e1 p2] e X.env = pure none := by rfl)
    (hd : (x == ("__debug__" : Str)) = false := by decide) (hcd : (x == ("__classdict__" : Str)) = false := by decide) (h1 : (assignEach [Expr.Subscript (.Name x p1) e1 p2] X.env).map (·.2) = [assign (.Subscript (.Name x p1) e1 p2) X.env] := by rfl) :
    PS X (.Assign [.Subscript (.Name x p1) e1 p2] e pos) (tS K mg W (sPut i fi f)) :=
  (ps_asg he (hE (pe_var hN hv hd hcd) hi) hs hw h1).imp fun D σ H ⟨B, F0, F, ρ, S, p⟩ => by
    unfold sPut at p
    split at p
    · rename_i ds ei
      obtain ⟨a, xs, h1, h2, h3, h4, h5⟩ := S.own i ds ei
      refine ⟨B, F0, F, ρ, S, PostE.of_out S p fun d _ q F' H' v st r => ?_⟩
      refine ⟨_, h1, B, F0, F', ρ, S.stp st, PostE.of_out (S.stp st) (q.fk st.fk) fun z _ q F2 H2 w st2 rz => ?_⟩
      have s12 := st.trans st2
      have h4' := s12.keep _ _ h4
      cases z with
      | int k =>
        have q : PostS K mg W B F0 F' H' D (match ixN ds.length k with | some j => Out.nx (ρ.set i (.own (ds.set j d))) | none => .bad) := q
        cases ej : ixN ds.length k with
        | none => rw [ej] at q; exact q.elim
        | some j =>
          rw [ej] at q
          obtain ⟨W1, k1⟩ := (S.stp s12).write (ys := xs.set j v) (es := ds.set j d) ei h1 ((h5.stp s12).set j (r.stp st2))
          exact ⟨a, xs, k, j, rfl, rz.int', h4', by rw [h5.length]; exact ej, q σ F2 _ W1 (st2.fk.trans k1)⟩
      | _ => exact q.elim
    · exact p.elim
theorem pq_ret {e : Expr} {f : Ro → Res PyData} (he : PE X e (tF K mg W f)) : PS X (.Return (some e) pos) (tS K mg W (sRet f)) := (ps_ret he).imp fun D σ H ⟨B, F0, F, ρ, S, p⟩ =>
  ⟨B, F0, F, ρ, S, PostE.of_out S p fun d _ q F' H' v st r => q v F' H' (S.out st) r⟩
theorem pq_retN : PS X (.Return none pos) (tS K mg W sRetN) := ps_retN.imp fun D σ H ⟨B, F0, F, ρ, S, p⟩ => p .non F H (S.out Stp.refl) .non
theorem pq_if {c : Expr} {a b : List Stmt} {t : Ro → Res Bool} {g h : Ro → Out} (hc : PT X c (tTs K mg W t)) (ha : PSs X a (tS K mg W g)) (hb : PSs X b (tS K mg W h)) : PS X (.If c a b pos) (tS K mg W (sIf t g h)) := (ps_if hc ha hb).imp fun D σ H ⟨B, F0, F, ρ, S, p⟩ => by
  refine ⟨B, F0, F, ρ, S, PostE.of_out S p fun k _ q F' H' st => ?_⟩
  cases k with
  | true => rw [if_pos rfl] at q ⊢; exact ⟨B, F0, F', ρ, S.stp st, q.fk st.fk⟩
  | false => rw [if_neg (by decide)] at q ⊢; exact ⟨B, F0, F', ρ, S.stp st, q.fk st.fk⟩
theorem pq_frz (is : List Nat) {st : Stmt} {g : Ro → Out} (h : PS X st (tS K mg W g)) : PS X st (tS K mg W (sFrz is g)) := h.imp fun D σ H ⟨B, F0, F, ρ, S, p⟩ => by
  obtain ⟨F', S', k⟩ := Ste.frz is S
  exact ⟨B, F0, F', frz is ρ, S', p.fk k⟩
theorem pq_for {tg iter : Expr} {body : List Stmt} {is : List Nat} {fi : Ro → Res (List PyData)} {g : PyData → Ro → Option Ro} {b : Ro → Out} (hp : PassesOwn (model X.prog X.w) X.A X.env X.xe) (hc : X.calm = true) (hi : PI X tg iter (tI K mg W false fi)) (hg : PG X tg (tTg K is g)) (hb : PSs X body (tS K mg W b))
    (hs : ∀ x, foldedSetIterable iter X.env x = pure x := by intro _; rfl) : PS X (.For tg iter body [] pos) (tS K mg W (sFor fi g b)) := (ps_for hp hc hi hg hb hs).imp fun D σ H ⟨B, F0, F, ρ, S, p⟩ => by
  refine ⟨B, F0, F, ρ, S, PostE.of_out S p fun ds _ q J F1 H1 st G => ?_⟩
  refine ⟨fun i m σ2 H2 => m = ds.length - i ∧ i ≤ ds.length ∧ ∃ (F2 : Rg) (ρ2 : Ro), Ste K B F0 F2 H2 σ2 ρ2 ∧ FK F1 H1 F2 H2 ∧ PostS K mg W B F0 F2 H2 D (forF g b (ds.drop i) ρ2), ⟨ds.length, by simp, Nat.zero_le _, F1, ρ, S.stp st, FK.refl, by simpa using q.fk st.fk⟩, ?_⟩
  rintro i m σ2 H2 ⟨rfl, hi, F2, ρ2, S2, k2, p2⟩
  have kp : Kept false F1 H1 F2 H2 := ⟨k2.sub, fun a h o e => k2.keep a (h.elim (fun z => nomatch z) id) o e⟩
  by_cases hlt : i < ds.length
  · obtain ⟨g1, g2⟩ := G.go i ds[i] F2 H2 (by simp [hlt]) kp
    refine .inr ⟨g1, fun σ3 H3 => ∃ (F3 : Rg) (ρ3 : Ro), Ste K B F0 F3 H3 σ3 ρ3 ∧ FK F1 H1 F3 H3 ∧ PostS K mg W B F0 F3 H3 D (forF g b (ds.drop (i + 1)) ρ3), fun σ' H' hh => ⟨ds.length - (i + 1), by omega, rfl, hlt, hh⟩, fun x H3 y => ?_⟩
    obtain ⟨F3, st3, rx⟩ := g2 x H3 y
    rw [List.drop_eq_getElem_cons hlt] at p2
    unfold forF at p2
    have p2 := p2.fk st3.fk
    cases eg : g ds[i] ρ2 with
    | none => rw [eg] at p2; exact p2.elim
    | some ρ3 =>
      rw [eg] at p2
      have p3 : PostS K mg W B F0 F3 H3 D (match b ρ3 with | .nx ρ2 => forF g b (ds.drop (i + 1)) ρ2 | .ct ρ2 => forF g b (ds.drop (i + 1)) ρ2 | .bk ρ2 => .nx ρ2 | o => o) := p2
      refine ⟨B, F0, F3, ρ2, ds[i], S2.stp st3, rx, ρ3, eg, fun σ4 S4 _ => ⟨B, F0, F3, ρ3, S4, ?_⟩⟩
      have kk := k2.trans st3.fk
      cases eb : b ρ3 with
      | nx ρ4 => rw [eb] at p3; exact fun σ' F' H' S' k => ⟨F', ρ4, S', kk.trans k, p3.fk k⟩
      | ct ρ4 => rw [eb] at p3; exact fun σ' F' H' S' k => ⟨F', ρ4, S', kk.trans k, p3.fk k⟩
      | bk ρ4 => rw [eb] at p3; exact p3
      | ret d => rw [eb] at p3; exact p3
      | exc c k => rw [eb] at p3; exact p3
      | bad => rw [eb] at p3; exact p3
  · have e : i = ds.length := by omega
    subst e
    rw [List.drop_length] at p2
    exact .inl ⟨G.stop F2 H2 kp, p2 σ2 F2 H2 S2 FK.refl⟩
theorem pq_while (n : Nat) {c : Expr} {body : List Stmt} {t : Ro → Res Bool} {b : Ro → Out} (hp : PassesOwn (model X.prog X.w) X.A X.env X.xe) (hc : PT X c (tTs K mg W t)) (hb : PSs X body (tS K mg W b)) : PS X (.While c body [] pos) (tS K mg W (sWhile n t b)) := (ps_while hp hc hb).imp fun D σ H ⟨B, F0, F, ρ, S, p⟩ => by
  refine ⟨fun m σ2 H2 => ∃ (F2 : Rg) (ρ2 : Ro), Ste K B F0 F2 H2 σ2 ρ2 ∧ PostS K mg W B F0 F2 H2 D (whF t b m ρ2) ∧ FK F H F2 H2, ⟨n, F, ρ, S, p, FK.refl⟩, ?_⟩
  rintro m σ2 H2 ⟨F2, ρ2, S2, p2, k2⟩
  cases m with
  | zero => exact p2.elim
  | succ m =>
    unfold whF at p2
    refine ⟨B, F0, F2, ρ2, S2, PostE.of_out S2 p2 fun k _ q F3 H3 st => ?_⟩
    cases k with
    | false => rw [if_neg (by decide)] at q ⊢; exact q σ2 F3 H3 (S2.stp st) st.fk
    | true =>
      rw [if_pos rfl] at q ⊢
      refine ⟨fun σ' H' => ∃ (F' : Rg) (ρ' : Ro), Ste K B F0 F' H' σ' ρ' ∧ PostS K mg W B F0 F' H' D (whF t b m ρ') ∧ FK F H F' H', fun σ' H' hh => ⟨m, Nat.lt_succ_self m, hh⟩, B, F0, F3, ρ2, S2.stp st, ?_⟩
      have q := q.fk st.fk
      have kk := k2.trans st.fk
      cases eb : b ρ2 with
      | nx ρ4 => rw [eb] at q; exact fun σ' F' H' S' k => ⟨F', ρ4, S', PostS.fk k q, kk.trans k⟩
      | ct ρ4 => rw [eb] at q; exact fun σ' F' H' S' k => ⟨F', ρ4, S', PostS.fk k q, kk.trans k⟩
      | bk ρ4 => rw [eb] at q; exact q
      | ret d => rw [eb] at q; exact q
      | exc c k => rw [eb] at q; exact q
      | bad => rw [eb] at q; exact q
end

/-! ### a def -/
section
variable {P : Program} {w : World} {K : PySem.W.Frag} {mg : Str → Option Value} {base : Heap}
theorem start_ste {N ps : List Str} {vs : List V} {ds : List PyData} {F : Rg} {H : Hp} (hl : vs.length = ps.length) (hN : ps.length ≤ N.length) (ht : ∀ a, F a → H a ≠ none) (r : Rps K F H vs ds) : Ste K H F F H (L2.start N vs) (ds.map .val ++ List.replicate (N.length - ps.length) .un) where
  same := Same.refl H
  reg := fun a h => .inl h
  sub := fun a h => h
  trk := ht
  len := by
    unfold L2.start
    simp only [List.length_append, List.length_map, List.length_replicate]
    rw [← r.length, hl]
  val := fun i d e => by
    by_cases hi : i < ds.length
    · rw [List.getElem?_append_left (by simpa using hi), List.getElem?_map] at e
      cases e2 : ds[i]? with
      | none => rw [e2] at e; cases e
      | some d2 =>
        rw [e2] at e
        cases e
        obtain ⟨v, h1, h2⟩ := r.get e2
        refine ⟨v, ?_, h2⟩
        unfold L2.start
        rw [List.getElem?_append_left (by rw [List.length_map, r.length]; exact hi), List.getElem?_map, h1]
        rfl
    · rw [List.getElem?_append_right (by simpa using hi), List.getElem?_replicate] at e
      split at e <;> cases e
  own := fun i es e => by
    by_cases hi : i < ds.length
    · rw [List.getElem?_append_left (by simpa using hi), List.getElem?_map] at e
      cases e2 : ds[i]? with
      | none => rw [e2] at e; cases e
      | some d2 => rw [e2] at e; cases e
    · rw [List.getElem?_append_right (by simpa using hi), List.getElem?_replicate] at e
      split at e <;> cases e
  sep := fun i j es es' a _ e => by
    by_cases hi : i < ds.length
    · rw [List.getElem?_append_left (by simpa using hi), List.getElem?_map] at e
      cases e2 : ds[i]? with
      | none => rw [e2] at e; cases e
      | some d2 => rw [e2] at e; cases e
    · rw [List.getElem?_append_right (by simpa using hi), List.getElem?_replicate] at e
      split at e <;> cases e
/-- THE RULE of a def: its body as a plain function of the slots -/
theorem fn_ok {x : Str} {st : Stmt} {f : Addr} {fd : FuncData} {N ps : List Str} {n j k : Nat} {g : Ro → Out} (Fu : Fun K x x st f fd) (S : FnScope N ps (defScope st)) (hn : ps.length = n) (hj : N.length - ps.length = j) (hle : ps.length ≤ N.length)
    (hbody : ∀ (cdv : Value) (A : Around) (outer : List Env) (s : Shared) (H : Hp) (E : XK), Room k (A.deeper (envOfC x (defScope st) s.heap.objs.size f cdv)) →
      PSs (cxOf (L2.CX P w) P w K mg base N x (defScope st) f cdv A outer s H E) (defBody st) (tS K mg (fun cls d _ H' => E cls d H') g)) : FnOk P w K mg base (L2.CX P w) (k + 1) f fd ps (spOf K mg n (mDef n j g)) := by
  refine Fu.okX S (fun vs H Q E h => h.1.trans hn.symm) fun cdv A outer s H vs Q E hr hsp => ?_
  refine ⟨_, hbody cdv A outer s H E hr, ?_⟩
  obtain ⟨hl, F, ds, ht, r, p⟩ := hsp
  have hl2 : vs.length = ps.length := hl.trans hn.symm
  refine ⟨H, F, F, _, start_ste hl2 hle ht r, ?_⟩
  rw [hj]
  unfold mDef at p
  rw [if_pos (by rw [← r.length]; exact hl)] at p
  cases eg : g (ds.map .val ++ List.replicate j .un) with
  | nx ρ' => rw [eg] at p; exact fun σ' F' H' S' k => p F' H' .non ⟨S'.sub, S'.same, fun a h => (S'.reg a h).imp id fun z => ⟨z, S'.trk a h⟩⟩ .non
  | ret d => rw [eg] at p; exact fun v F' H' s r => p F' H' v s r
  | bk ρ' => rw [eg] at p; exact p.elim
  | ct ρ' => rw [eg] at p; exact p.elim
  | exc c k => rw [eg] at p; exact fun σ' H' dx C s e1 e2 => p H' dx C s e1 e2
  | bad => rw [eg] at p; exact p.elim
end
end Pf
/-! Pf6: the program's errors: a class over ValueError whose __init__ says super().__init__(at); self.at = at. -/
namespace Pf
open PySem PySem.Spec PyProof.Rows L2

section
open PySem.W
variable {prog : Program} {w : World} {A : Around} {E : Value → Shared → Prop} {h : Heap} {g : Array GenState} {d : Drawn} {t : Nat} {os : OsState}
variable {nm q : Str} {C N : Addr} {bs bm : List Value} {hdct : Bool} {sn : List Str} {sub : List Value} {ab : Bool} {col : Option Bool} {dd : Option Addr} {k0 k1 k2 k3 k5 : Option Value}
theorem call_mwVE {u e t0 : Addr} {rest : List Value} {Q : Value → Shared → Prop}
    (hC : h.get? C = some (excClassObj nm q C N bs bm hdct sn sub ab col dd k0 k1 k2 k3 k5 "ValueError.__new__")) (he : h.get? e = some (HandSPX.excO C t0)) (hu : h.get? u = some (kxs_mw "ValueError.__init__" e)) (hrest : rest.length ≤ sizeLine)
    (hq : ∀ h' t1, (∀ b o, b ≠ e → h.get? b = some o → h'.get? b = some o) → h'.get? e = some (HandSPX.excO C t1) → Q .none ⟨h', g, d, t, os⟩) :
    wpAny (model prog w) A (call (.ref u) rest) Q E ⟨h, g, d, t, os⟩ := by
  refine wpAny_call (codeAny_of_tree ?_)
  show wpAny _ A.in1 (callAny (.ref u) ⟨rest, []⟩) _ _ _
  simp only [callAny]
  refine wpAny_bind (wpAny_load hu ?_)
  simp only [kxs_mw, show (Value.type "method-wrapper" == Value.type "method" || Value.type "method-wrapper" == Value.type "builtin_function_or_method" || Value.type "method-wrapper" == Value.type "method-wrapper") = true by decide, if_true]
  refine KFB.if_so (by decide) ?_
  refine wpAny_bind (check_bound_init F.excBase_ValueError.toExcCallFacts hC he rfl ?_)
  refine wpAny_bind (wpAny_pure (wpAny_pure ?_))
  refine ⟨Code.quiet_builtin _ (by decide +kernel), codeAny_builtin F.excBase_ValueError.initEntry ?_⟩
  rw [Around.under_plainId F.excBase_ValueError.init.plain _]
  wp_walk
  refine hq _ h.objs.size (fun b o hb ho => ?_) ?_
  · rw [Heap.get?_update_other _ _ (Ne.symm hb)]
    exact Heap.get?_push_of_some _ ho
  · rw [Heap.get?_update_self _ (Heap.get?_push_of_some _ he) rfl]
    rfl
end

/-- what the written part says of the class D with the __init__ at f (its cell at cc) -/
structure InitF (P : Program) (K : PySem.W.Frag) (mg : Str → Option Value) (qual : Str) (st : Stmt) (f : Addr) (fd : FuncData) (D cc : Addr) : Prop where
  ex : ∃ (oc : Value) (od : Option Addr) (kV doc pm : Value) (an : Option Addr) (cda : Addr) (ct : Value) (osl : Array (Option Value)) (ccl : Value) (cdd : Option Addr) (vs : Array Value) (ccs : Array (Option Value)) (file : Str) (tf : Tok),
    fd = PySem.W.ksFn "__init__" qual (defArgs st) (defBody st) (defScope st) .none kV doc pm an (.ref cda) ct cc ∧ K.lookup f = some ⟨oc, od, .func fd, osl⟩ ∧ PySem.W.codeIn K (.ref cda) qual = true ∧
      K.lookup cda = some ⟨ccl, cdd, .fields vs, ccs⟩ ∧ vs[2]? = some (.str file tf) ∧ ((P.main.file : Str) == file) = true
  kp : PySem.W.keepIn K (.ref f) = true
  cell : ∃ (cl : Value) (cld : Option Addr) (csl : Array (Option Value)), K.lookup cc = some ⟨cl, cld, .cell (some (.ref D)), csl⟩
  cls : ∃ cd, PySem.W.clsIn K D = some cd
  sup : mg "super" = none
  top : (P.main.scope.names.lookup ("super" : Str)).isSome = false
structure ExcOk (K : PySem.W.Frag) (D f C : Addr) : Prop where
  oex : OexC K C
  ini : PySem.W.findIn K (.ref C) "__init__" = some (some (.ref f))
  noat : PySem.W.findIn K (.ref C) "at" = some none
  sub : PySem.W.mroIn K C (.ref D) = some true
  sup : PySem.W.ks_superIn K C D "__init__" = some (some (.builtin "ValueError.__init__"))
  subV : PySem.W.subIn K (.ref C) (.type "ValueError") = some true
  opq : PySem.W.nsIn K cStatics "thirdparty.any" = some none
  tyI : PySem.W.typeIn K (.ref f) = some (.type "function")
def spInit (K : PySem.W.Frag) (D f : Addr) : Sp := fun vs H Q _ => ∃ (a C : Addr) (k : Int), vs = [.ref a, .int k] ∧ ExcOk K D f C ∧ H a = some (exo a C none) ∧
  ∀ d, H d = none → d ≠ a → Q .non (upd (upd H d (exd d [("at", .int k)])) a (exo a C (some d)))
/-- the scope of that __init__ -/
structure InitSc (st : Stmt) : Prop where
  kind : (defScope st).kind = .function
  co : (defScope st).isCoroutine = false
  gen : (defScope st).isGenerator = false
  self : (defScope st).names.lookup ("self" : Str) = some .local
  at_ : (defScope st).names.lookup ("at" : Str) = some .local
  kls : (defScope st).names.lookup ("__class__" : Str) = some .free
  sup : (defScope st).names.lookup ("super" : Str) = some .globalImplicit
  nocell : ∀ x ∈ (defScope st).names, x.2 ≠ .cell
  free : ∀ x, (defScope st).names.lookup x = some .free → x = ("__class__" : Str)
  par : ((defArgs st).posonlyargs ++ (defArgs st).args).head?.map (·.arg) = some ("self" : Str)
  body : ∃ (p0 p1 p2 p3 p4 p5 p6 p7 p8 p9 : Pos), defBody st = [.Expr (.Call (.Attribute (.Call (.Name "super" p0) [] [] p1) "__init__" p2) [.Name "at" p3] [] p4) p5, .Assign [.Attribute (.Name "self" p6) "at" p7] (.Name "at" p8) p9] ∧
    (∀ env : Env, ∃ pl : Sem Bool, eval (.Call (.Attribute (.Call (.Name "super" p0) [] [] p1) "__init__" p2) [.Name "at" p3] [] p4) env = (do
      let ov ← attributeBase (.Call (.Name "super" p0) [] [] p1) "__init__" env (eval (.Call (.Name "super" p0) [] [] p1) env)
      standAt p2.atName
      let (f, first) ← holding [ov] (getMethod ov "__init__" pl)
      callWith p4 f first (backTo p4 (starEach [.Name "at" p3] env)) [])) ∧ (p4.line == p5.line) = (p4.line == p5.line)

section
variable {P : Program} {w : World} {K : PySem.W.Frag} {mg : Str → Option Value} {base : Heap}
/-- the context of that def's body -/
def cxI (P : Program) (w : World) (K : PySem.W.Frag) (mg : Str → Option Value) (base : Heap) (qual : Str) (scope : Scope) (f cc : Addr) (cd : Value) (A : Around) (outer : List Env) (s : Shared) (H : Hp) (E : Value → Shared → Prop) : Cx where
  prog := P
  w := w
  K := K
  mg := mg
  base := base
  A := A.deeper (PySem.W.ksEnv qual scope s.heap.objs.size f cd cc)
  N := ["self", "at"]
  s_0 := s
  H_0 := H
  env := PySem.W.ksEnv qual scope s.heap.objs.size f cd cc
  outer := outer
  stack := PySem.W.ksEnv qual scope s.heap.objs.size f cd cc :: outer
  ex := []
  calm := true
  fn := fun _ => false
  pn := []
  xe := E
theorem init_ok {qual : Str} {st : Stmt} {f D cc : Addr} {fd : FuncData} (I : InitF P K mg qual st f fd D cc) (S : InitSc st) : FnOk P w K mg base (L2.CX P w) 1 f fd ["self", "at"] (spInit K D f) := by
  refine ⟨fun vs H Q E ⟨a, C, k, e, _⟩ => by rw [e]; rfl, fun A outer s H args us vs Q E hr e0 hb r hsp => ?_⟩
  obtain ⟨oc, od, kV, doc, pm, an, cda, ct, osl, ccl, cdd, vsc, ccs, file, tf, rfl, lkf, hcode, lkc, hvs, hfile⟩ := I.ex
  obtain ⟨cl, cld, csl, lkcell⟩ := I.cell
  obtain ⟨cdD, hclsD⟩ := I.cls
  obtain ⟨a, C, k, rfl, T, Ha, hQ⟩ := hsp
  obtain ⟨ua, uk, rfl, ra, rk⟩ := vals2 r
  obtain rfl : ua = Value.ref a := ra
  obtain ⟨tk, rfl⟩ := rk
  have KX : K.In s.heap := e0.mod.kin.keeps fun b o e => (e0.bs b o e).1
  have lim : s.heap.NoLimit := e0.mod.nolimit.keeps fun b o e => (e0.bs b o e).1
  have hcellB : base.get? cc = some ⟨cl, cld, .cell (some (.ref D)), csl⟩ := e0.mod.kin _ _ lkcell
  refine PySem.ks_codeAny_call_defAt (fd := PySem.W.ksFn "__init__" qual (defArgs st) (defBody st) (defScope st) .none kV doc pm an (.ref cda) ct cc) (body := defBody st) (binds := [("self", .ref a), ("at", .int k tk)]) hr.depth (KX _ _ lkf) rfl lim (PySem.W.codeRec_of KX hcode) rfl hb S.nocell (fun y hy => ?_) (fun h₁ hns hk => ?_) S.co S.gen S.kind
  · rcases List.mem_cons.mp hy with rfl | hy
    · exact S.self
    · rcases List.mem_cons.mp hy with rfl | hy
      · exact S.at_
      · cases hy
  -- the state at the body's start
  show _root_.PySem.wpAt (model P w) (A.deeper (PySem.W.ksEnv qual (defScope st) s.heap.objs.size f (.ref cda) cc)) (.func (defBody st) (PySem.W.ksEnv qual (defScope st) s.heap.objs.size f (.ref cda) cc)) (execs (defBody st) (PySem.W.ksEnv qual (defScope st) s.heap.objs.size f (.ref cda) cc)) _ _ _
  generalize hxe : (fun (e : Value) (s' : Shared) => wpAny (model P w) (A.deeper (callEnv (PySem.W.ksFn "__init__" qual (defArgs st) (defBody st) (defScope st) .none kV doc pm an (.ref cda) ct cc) s.heap.objs.size f)) (leaving (callEnv (PySem.W.ksFn "__init__" qual (defArgs st) (defBody st) (defScope st) .none kV doc pm an (.ref cda) ct cc) s.heap.objs.size f) e) (fun _ s'' => CR (L2.CX P w) outer P w H s Q E (.error e) s'') (fun e' s'' => CR (L2.CX P w) outer P w H s Q E (.error e') s'') s') = XE0
  have hfresh : H s.heap.objs.size = none := e0.hok.fresh (Nat.le_refl _)
  have noA : ∀ b : Addr, b ∉ ([] : List Addr) := fun b z => nomatch z
  have Ok : (cxI P w K mg base qual (defScope st) f cc (.ref cda) A outer s H XE0).Ok := by
    refine ⟨e0.mod, S.kind, rfl, rfl, Nat.le_refl _, fun x y c h1 h2 => ?_, fun x hx => ?_, (fun x c h _ => absurd (show false = true from h) Bool.false_ne_true), fun _ => hr.hd, Around.frames_deeper e0.frames, .inr ⟨rfl, rfl⟩, fun b z => absurd z (noA b), e0.bs, e0.bsz, fun b _ _ => noA b, fun b z => absurd z (noA b), e0.funs, e0.frf⟩
    · have e1 : ([("__class__", cc)] : List (Str × Addr)).lookup x = some c := h1
      have e2 : ([("__class__", cc)] : List (Str × Addr)).lookup y = some c := h2
      have key : ∀ z : Str, ([("__class__", cc)] : List (Str × Addr)).lookup z = some c → z = "__class__" := fun z h => by
        by_cases e : (z == ("__class__" : Str)) = true
        · exact eq_of_beq e
        · simp [List.lookup, e] at h
      rw [key x e1, key y e2]
    · have hx : (defScope st).names.lookup x = some .cell ∨ (defScope st).names.lookup x = some .free := hx
      rcases hx with hx | hx
      · exact absurd rfl (S.nocell _ (PySem.mem_of_lookup hx))
      · rw [S.free x hx]
        exact ⟨cc, rfl⟩
  have hm : ∀ m, h₁.Ns s.heap.objs.size m → True := fun _ _ => trivial
  have lself : ([("self", Value.ref a), ("at", Value.int k tk)] : List (Str × Value)).reverse.lookup ("self" : Str) = some (.ref a) := by rfl
  have lat : ([("self", Value.ref a), ("at", Value.int k tk)] : List (Str × Value)).reverse.lookup ("at" : Str) = some (.int k tk) := by rfl
  have I0 : Inv (cxI P w K mg base qual (defScope st) f cc (.ref cda) A outer s H XE0) [] [some (.ref a), some (.int k)] H { s with heap := h₁, toks := s.toks + 2 } := by
    refine ⟨Ok, rfl, e0.bare, Un.kept hk, ⟨_, hns, fun i x v h1 h2 h3 => ?_⟩, fun x c hc => ?_, hfresh, fun x c hc => ?_, fun p hp => absurd (show p ∈ ([] : List (Addr × Obj)) from hp) (by simp), e0.hok.kept hk, rfl⟩
    · match i with
      | 0 => cases h1; cases h2; exact ⟨.ref a, rfl, .inl ⟨S.self, lself⟩⟩
      | 1 => cases h1; cases h2; exact ⟨.int k tk, ⟨tk, rfl⟩, .inl ⟨S.at_, lat⟩⟩
      | i + 2 => simp [cxI] at h1
    · have hc' : ([("__class__", cc)] : List (Str × Addr)).lookup x = some c := hc
      by_cases e : (x == ("__class__" : Str)) = true
      · simp [List.lookup, e] at hc'
        rw [← hc']
        exact ⟨_, _, hk _ _ (e0.bs _ _ hcellB).1, rfl⟩
      · simp [List.lookup, e] at hc'
    · have hc' : ([("__class__", cc)] : List (Str × Addr)).lookup x = some c := hc
      by_cases e : (x == ("__class__" : Str)) = true
      · simp [List.lookup, e] at hc'
        rw [← hc']
        exact (e0.bs _ _ hcellB).2
      · simp [List.lookup, e] at hc'
  obtain ⟨p0, p1, p2, p3, p4, p5, p6, p7, p8, p9, hbody, heq, _⟩ := S.body
  obtain ⟨pl, heq⟩ := heq (PySem.W.ksEnv qual (defScope st) s.heap.objs.size f (.ref cda) cc)
  rw [hbody]
  refine PySem.ks_wpAt_execs_cons (PySem.ks_wpAt_Expr_any (PySem.ks_wpAt_MethodCall (pl := pl) ?_ heq) (by simp [interactive, S.kind]))
  -- super()
  obtain ⟨ar, har, hara⟩ : ∃ ar, ((defArgs st).posonlyargs ++ (defArgs st).args).head? = some ar ∧ ar.arg = ("self" : Str) := by
    have := S.par
    cases e : ((defArgs st).posonlyargs ++ (defArgs st).args).head? with
    | none => rw [e] at this; cases this
    | some ar => rw [e] at this; exact ⟨ar, rfl, Option.some.inj this⟩
  obtain ⟨oD, hD1, hD2⟩ : ∃ oD, K.lookup D = some oD ∧ oD.data = .cls cdD := by
    have hclsD := hclsD
    unfold PySem.W.clsIn at hclsD
    split at hclsD
    · rename_i c d cd' sl ho
      cases hclsD
      exact ⟨_, ho, rfl⟩
    · cases hclsD
  have X1 : K.In h₁ := fun b o e => hk _ _ (KX b o e)
  obtain ⟨t1, hoa⟩ := exo_at I0.hok Ha
  have Iat : PySem.W.InstAt h₁ a { cls := .ref C, dict := none, data := .fields #[.ref t1, .none, .none, .none, .bool false, .none] } C none := ⟨hoa, rfl, rfl, trivial⟩
  obtain ⟨mb, hb1, hb2⟩ := e0.mod.blt
  refine PySem.ks_wpAt_super_base (env := PySem.W.ksEnv qual (defScope st) s.heap.objs.size f (.ref cda) cc) S.sup S.kls (by decide) rfl (X1 _ _ lkf) rfl har rfl (X1 _ _ lkc) rfl hvs hfile I.top ?_
  refine PySem.W.ks_loadName_global S.kind S.sup (PySem.Calls.loadGlobal_builtin (env := PySem.W.ksEnv qual (defScope st) s.heap.objs.size f (.ref cda) cc) (e0.mod.glob.keeps fun b o e => hk _ _ (e0.bs b o e).1) I.sup (hb1.keeps fun b o e => hk _ _ (e0.bs b o e).1) ((hb2 _ (by decide)).trans (by decide +kernel)) ⟨rfl, ?_⟩)
  refine wpAny_loadName_free S.kind S.kls rfl ⟨_, X1 _ _ lkcell, rfl⟩ ?_
  rw [hara]
  refine wpAny_loadName_local S.kind S.self hns lself ?_
  refine PySem.ks_wpAny_isType_cls (X1 _ _ hD1) hD2 ⟨rfl, ?_⟩
  refine PySem.ks_wpAny_call_super (X1 _ _ hD1) hD2 hoa rfl (fun c e => nomatch e) (PySem.W.looks_mroIn X1 T.sub) fun h₂ hso hk2 => ?_
  -- its __init__
  have X2 : K.In h₂ := fun b o e => hk2 _ _ (X1 b o e)
  have hoa2 := hk2 _ _ hoa
  have Iat2 : PySem.W.InstAt h₂ a { cls := .ref C, dict := none, data := .fields #[.ref t1, .none, .none, .none, .bool false, .none] } C none := ⟨hoa2, rfl, rfl, trivial⟩
  obtain ⟨nm, q, N', bs', bm, sn, sub, ab, col, dd, k0, k1, k2, k3, k5, hC, hbm⟩ := T.oex.cls
  have hcl : PySem.W.clsIn K C = some { name := nm, bases := bs', mro := .ref C :: bm, ns := N', qualname := q, hasDict := true, slotNames := sn, subclasses := sub, abstract := ab, collection := col, hasDel := false } := by unfold PySem.W.clsIn; rw [hC] <;> rfl
  have hsup := T.sup
  unfold PySem.W.ks_superIn at hsup
  rw [hcl] at hsup
  refine PySem.W.kxs_getMethod PySem.W.kxs_ValueError hso (PySem.W.looks_opaque X2 T.opq) (l₀ := .ref C :: bm) (fun A Q E s k q => wpAny_bind ((PySem.W.looks_clsIn X2 hcl) A _ E s k (wpAny_pure q))) rfl X2 hsup (Iat2.type.andThen (PySem.W.looks_subIn X2 T.subV)) (PySem.W.ks_ne X2 Iat2 hcl) (by decide) ?_
  -- its call
  have hu3 : (h₂.push (PySem.W.kxs_mw "ValueError.__init__" a)).get? h₂.objs.size = some (PySem.W.kxs_mw "ValueError.__init__" a) := Heap.get?_push_size _ rfl
  have hk3 : ∀ b o, h₁.get? b = some o → (h₂.push (PySem.W.kxs_mw "ValueError.__init__" a)).get? b = some o := fun b o e => Heap.get?_push_of_some _ (hk2 _ _ e)
  have I1 : Inv (cxI P w K mg base qual (defScope st) f cc (.ref cda) A outer s H XE0) [] [some (.ref a), some (.int k)] H { s with heap := h₂.push (PySem.W.kxs_mw "ValueError.__init__" a), toks := s.toks + 2 + 1 } := I0.kept (t' := s.toks + 2 + 1) hk3
  have hlt : s.heap.objs.size < (h₂.push (PySem.W.kxs_mw "ValueError.__init__" a)).objs.size := I1.lt
  have I1p : Inv (cxI P w K mg base qual (defScope st) f cc (.ref cda) A outer s H XE0) [(h₂.objs.size, PySem.W.kxs_mw "ValueError.__init__" a)] [some (.ref a), some (.int k)] H { s with heap := h₂.push (PySem.W.kxs_mw "ValueError.__init__" a), toks := s.toks + 2 + 1 } := I1.pins_of fun p hp => by
    have ep : p = (h₂.objs.size, PySem.W.kxs_mw "ValueError.__init__" a) := by simpa using hp
    subst ep
    have lt1 : s.heap.objs.size < h₂.objs.size := by
      obtain ⟨o, _, _, ho, _⟩ := hns
      exact Heap.lt_size (hk2 _ _ ho)
    refine ⟨hu3, ?_, Nat.ne_of_gt lt1, ?_, fun v e => nomatch e⟩
    · have := (I0.kept (t' := s.toks + 2) hk2).hok.fresh (Nat.le_refl _)
      exact this
    · exact (I0.kept (t' := s.toks + 2) hk2).nofs (Nat.le_refl _)
  refine PySem.W.kxs_callWith (i := "ValueError.__init__") (x := a) (M := model P w) (by rfl) ?_
  refine PySem.Calls.evalArgs_plain ?_
  have vat : Vis (cxI P w K mg base qual (defScope st) f cc (.ref cda) A outer s H XE0).env.scope "at" := .inl S.at_
  have vself : Vis (cxI P w K mg base qual (defScope st) f cc (.ref cda) A outer s H XE0).env.scope "self" := .inl S.self
  have pat : ∀ p : Pos, PE (cxI P w K mg base qual (defScope st) f cc (.ref cda) A outer s H XE0) (.Name "at" p) (tVar 1) := fun p => pe_var (by rfl) vat
  have pself : ∀ p : Pos, PE (cxI P w K mg base qual (defScope st) f cc (.ref cda) A outer s H XE0) (.Name "self" p) (tVar 0) := fun p => pe_var (by rfl) vself
  refine thn ((pa_cons (pat p3) pa_nil).run p4 [(h₂.objs.size, PySem.W.kxs_mw "ValueError.__init__" a)] _ [some (.ref a), some (.int k)] H (fun vs H1 => vs = [.int k] ∧ H1 = H) I1p ⟨_, rfl, rfl, rfl⟩) fun us s2 ⟨vs, H1, I2, rv, ev, eH⟩ => ?_
  subst ev
  rw [eH] at I2
  obtain ⟨u1, rfl, ru⟩ := vals1 rv
  have hu2 := (I2.pin (h₂.objs.size, PySem.W.kxs_mw "ValueError.__init__" a) (List.mem_append_right _ List.mem_cons_self)).1
  obtain ⟨t2, hoa3⟩ := exo_at I2.hok Ha
  refine ⟨hu2, ?_⟩
  obtain ⟨hp2, g2, d2, tk2, os2⟩ := s2
  refine call_mwVE (I2.kIn _ _ hC) hoa3 hu2 (by rw [sizeLine_eq]; exact (by decide : (1 : Nat) ≤ 16777216)) fun h4 t4 hk4 ho4 => ?_
  have I3 : Inv (cxI P w K mg base qual (defScope st) f cc (.ref cda) A outer s H XE0) [] [some (.ref a), some (.int k)] H ⟨h4, g2, d2, tk2, os2⟩ := by
    have J := (I2.pins_of (pins' := []) fun p hp => absurd hp (by simp)).write (t' := tk2) (x := a) (e := a) (o := exo a C none) (by rw [Ha]; exact True.intro) (.inl rfl) hk4 ⟨_, ho4⟩ (exo_ok ho4)
    have eu : upd H a (exo a C none) = H := by
      funext b
      by_cases hb : b = a
      · rw [hb, upd_same, Ha]
      · rw [upd_ne hb]
    rw [eu] at J
    exact J
  -- self.at = at
  refine wpAt_of_wpAny ?_
  have q : PSs (cxI P w K mg base qual (defScope st) f cc (.ref cda) A outer s H XE0) [.Assign [.Attribute (.Name "self" p6) "at" p7] (.Name "at" p8) p9] (tOst K "at" (tVar 0) (tVar 1)) := pss_one (ps_ost (pself p6) (pat p8) (by rfl))
  refine wpAny_mono (q.run [] _ [some (.ref a), some (.int k)] H { nx := fun _ H' => Q .non H', rt := fun _ _ => False } I3 ⟨_, rfl, _, rfl, a, C, rfl, T.oex, T.noat, .inl ⟨Ha, fun d hd ne => hQ d hd ne⟩⟩) (fun fl s' hs => ?_) fun e s' hs => ?_
  · cases fl with
    | next =>
      obtain ⟨σ', H', J, q⟩ := hs
      exact ⟨.non, H', J.os, J.bare, J.base, J.hok, rfl, q⟩
    | ret u =>
      obtain ⟨_, _, _, _, _, q⟩ := hs
      exact False.elim q
    | brk =>
      obtain ⟨_, _, _, q⟩ := hs
      exact False.elim q
    | cont =>
      obtain ⟨_, _, _, q⟩ := hs
      exact False.elim q
  · exact hs
end
end Pf
/-! Pf7: raise, try. -/
namespace Pf
open PySem PySem.Spec PyProof.Rows L2

section
variable {X : Cx} {W : WX} {pos : Pos}
theorem pq_raise {x : Str} {p pos' : Pos} {C D fI : Addr} {fd : FuncData} {e : Expr} {f : Ro → Res PyData} (hc : X.calm = true) (tk : Takes X W) (T : ExcOk X.K D fI C) (F1 : FnOk X.prog X.w X.K X.mg X.base (L2.CX X.prog X.w) 1 fI fd ["self", "at"] (spInit X.K D fI)) (hr : Room 2 X.A) (hb : Binds X.K fd ["self", "at"] [])
    (hg : Gl X x) (hm : X.mg x = some (.ref C)) (he : PE X e (tB X.K X.mg W f)) (hdb : (x == ("__debug__" : Str)) = false := by decide) (hst : starEach [e] X.env = (false, eval e X.env) :: starEach [] X.env := by rfl) (hpl : (backTo pos' (starEach [] X.env)).any (·.1) = false := by rfl) :
    PS X (.Raise (some (.Call (.Name x p) [e] [] pos')) none pos) (tS X.K X.mg W (sRaise x f)) :=
  (ps_raise hc tk (pmk_oex T.oex T.ini T.tyI F1 hr hb .nil passL hg hm (pa_cons he pa_nil hst) hdb hst hpl)).imp fun D' σ H ⟨B, F0, F, ρ, S, p⟩ => by
    refine ⟨B, F0, F, ρ, S, PostE.of_out S p fun d _ q F' H' v st r => ?_⟩
    cases d with
    | int k =>
      have q : PostS X.K X.mg W B F0 F H D' (.exc x k) := q
      refine ⟨by simp, fun a ha => ⟨a, C, k, by rw [r.int']; rfl, T, upd_same, fun d hd ne => ⟨rfl, d, _, upd_same, by rw [upd_ne ne, upd_same], ?_, ?_⟩⟩⟩
      · rw [upd_ne ne] at hd; exact hd
      · refine q σ _ d C (fun b o e => ?_) upd_same hm
        have e' := st.keep _ _ (S.same b o e)
        have h1 : b ≠ a := ne_of_none e' ha
        have hd' : H' d = none := by rw [upd_ne ne] at hd; exact hd
        have h2 : b ≠ d := ne_of_none e' hd'
        rw [upd_ne h2, del_ne h1, upd_ne h1, upd_ne h2, upd_ne h1]
        exact e'
    | _ => exact q.elim
end

/-! ### try: body; except x as n: return .. (several) -/
def wManyAs (K : PySem.W.Frag) (i : Nat) (Wout : WX) (D : Ends) : List (Value × (Addr → Value → Option Addr → TS)) → WX
  | [] => Wout
  | (c, ts) :: r => fun cls d σ H => ∃ b, PySem.W.exmOne K cls c = some b ∧ (b = true → ∀ a, H a = none → ts a cls d { nx := fun σ' H' => D.nx (σ'.set i none) H', rt := D.rt, bk := fun σ' H' => D.bk (σ'.set i none) H', ct := fun σ' H' => D.ct (σ'.set i none) H' } (σ.set i (some (.ref a))) H) ∧ (b = false → wManyAs K i Wout D r cls d σ H)
inductive HdsAs (X : Cx) (n : Str) : List ExceptHandler → List (Value × (Addr → Value → Option Addr → TS)) → Prop
  | nil : HdsAs X n [] []
  | cons {x : Str} {c : Value} {ts : Addr → Value → Option Addr → TS} {b₀ : Stmt} {suite : List Stmt} {np pos' : Pos} {hds : List ExceptHandler} {l : List (Value × (Addr → Value → Option Addr → TS))} (hc : Names X x c)
      (hsu : ∀ (a : Addr) (oe : Obj) (cls : Value) (d : Option Addr) (pn : List (Addr × Obj)), Zc cls d oe → (∃ vs, oe.data = .fields vs) → PSs (X.suite a ((a, oe) :: pn)) (b₀ :: suite) (ts a cls d)) (r : HdsAs X n hds l) :
      HdsAs X n (.ExceptHandler (some (.Name x np)) (some n) (b₀ :: suite) pos' :: hds) ((c, ts) :: l)
section
variable {X : Cx} {n : Str} {i : Nat} {body : List Stmt} {h₀ : ExceptHandler} {hds : List ExceptHandler} {l : List (Value × (Addr → Value → Option Addr → TS))} {pos : Pos} {tb : WX → TS} {Wout : WX}
theorem ps_try_manyAs (hs : X.stack = X.env :: X.outer) (hf : X.env.frame = some X.env.locals) (hN : X.N.Nodup) (hi : X.N[i]? = some n) (hln : X.env.kindOf n = some .local) (tk : Takes X Wout)
    (hb : ∀ (W : WX) (pn : List (Addr × Obj)) (xe : Value → Shared → Prop), Takes (X.tr pn xe) W → PassesOwn (model X.prog X.w) X.A X.env xe → PSs (X.tr pn xe) body (tb W))
    (hh : HdsAs X n (h₀ :: hds) l) : PS X (.Try body (h₀ :: hds) [] [] pos) (fun D σ H => tb (wManyAs X.K i Wout D l) D σ H) := by
  refine ⟨fun pins s σ H D I h => ?_⟩
  have ok := I.ok
  have hloc : Loc X.env.scope n := .inl hln
  have hfr : X.A.frames = some (X.env :: X.outer) := by rw [ok.frames, hs]
  refine wpAny_Try_except ?_
  refine wpAny_mono ((hb (wManyAs X.K i Wout D l) (X.pn ++ pins) (fun e s₁ => wpAny (model X.prog X.w) X.A (noteFrame e X.env) (fun _ s₂ => wpAny (model X.prog X.w) X.A (setFlight e none) (fun _ s₃ =>
    wpAny (model X.prog X.w) X.A (handleBy e X.env (h₀ :: hds)) (SP X pins D) X.xe s₃) X.xe s₂) X.xe s₁) (fun u s' xx => ?_) PassesOwn.looking).run [] s σ H D (I.toTry _) h) (fun f s1 hsp => ?_) (fun e s1 he => he)
  · -- the catch
    obtain ⟨a, B, sI, pins', σ', H', cls, d, rfl, J', nb, up, sky, na, os, ag, w⟩ := xx
    have J : Inv X pins σ' H' sI := J'.ofTry ok
    have sky' : Sky B (X.env :: X.outer) a (Zc cls d) X.env.locals s'.heap := by rw [← hs]; exact sky
    show wpAny (model X.prog X.w) X.A (noteFrame (.ref a) X.env) _ _ _
    refine Sky.land Zc.steady hfr hf sky' fun h3 fl3 up3 => ?_
    have J3 : Inv X pins σ' H' { s' with heap := h3 } := J.landed nb fl3.1 (up.trans up3) os ag
    obtain ⟨oe3, vs3, he3, hz3, hd3⟩ := fl3.there
    have notFr : ∀ {h : Heap} {o : Obj} {vs : Array Value}, h.FunFrames B (X.env :: X.outer) → h.get? a = some o → o.data = .fields vs → a ∉ frs (X.env :: X.outer) := fun {h o vs} ff e dd hm => by
      obtain ⟨_, o', e', hnf⟩ := ff.mem hm
      rw [e] at e'; cases e'
      exact hnf _ dd
    have nfr := notFr fl3.2.2.1 he3 hd3
    have nL : a ≠ X.env.locals := fun z => nfr (List.mem_filterMap.mpr ⟨X.env, List.mem_cons_self, by rw [hf, z]⟩)
    have nF : a ∉ X.fs := fun hm => by
      obtain ⟨e, he, q⟩ := List.mem_filterMap.mp hm
      exact nfr (List.mem_filterMap.mpr ⟨e, List.mem_cons_of_mem _ he, q⟩)
    have S3 := J3.suite he3 hd3 na nL nF
    have go : ∀ {hds' : List ExceptHandler} {l' : List (Value × (Addr → Value → Option Addr → TS))}, HdsAs X n hds' l' → wManyAs X.K i Wout D l' cls d σ' H' →
        wpAny (model X.prog X.w) X.A (handleBy (.ref a) X.env hds') (SP X pins D) X.xe { s' with heap := h3 } := by
      intro hds' l' hk
      induction hk with
      | nil =>
        intro w
        refine wpAny_handleBy_nil ?_
        obtain ⟨k1, k2, k3, oe, vs, T, oT, ts', he, hz, hd, h1, hr⟩ := id fl3
        unfold PySem.passOn
        refine wpAny_bind (wpAny_field he hd h1 ?_)
        rw [if_neg (show ¬ ((Value.ref T == Value.none) = true) from by simp)]
        have fin : wpAny (model X.prog X.w) X.A (setFlight (.ref a) X.env.frame) (fun _ s4 => wpAny (model X.prog X.w) X.A (throw (.ref a) : Sem Flow) (SP X pins D) X.xe s4) X.xe { s' with heap := h3 } := by
          rw [hf]
          refine HandSPX.setFlight_upZ fl3 fun h4 hh4 up4 => wpAny_throw (tk _ _ ?_)
          exact ⟨a, B, sI, pins, σ', H', cls, d, rfl, J, nb, (up.trans up3).trans up4, .inr (.inr (by rw [hs]; exact hh4)), na, os, ag, w⟩
        first
          | exact wpAny_bind (wpAny_pure (wpAny_bind fin))
          | exact wpAny_bind fin
      | @cons x c ts b₀ suite np pos' hds2 l2 hc hsu r ih =>
        intro w
        obtain ⟨b, hb1, hyes, hno⟩ := w
        refine wpAny_handleBy_cons (codeAny_handlers_test ?_) (by intro q; cases q)
        have LT : PySem.W.Looks (model X.prog X.w) h3 (typeOf (.ref a)) cls := fun A Q E s k q => wpAny_typeOf_ref (k _ _ he3) (by rw [hz3.1]; exact q)
        have LM := PySem.W.exm_one (M := model X.prog X.w) (J3.kIn) LT hb1
        have test : ∀ {Q : Value → Shared → Prop} {E : Value → Shared → Prop}, Q c { s' with heap := h3 } → wpAny (model X.prog X.w) (X.A.mark (some (.ref a))) (eval (.Name x np) X.env) Q E { s' with heap := h3 } := fun {Q E} q => by
          obtain ⟨hg, hdbg, hm | ⟨hm, hv, hnn⟩⟩ := hc
          · exact ld_glob (X := X.suite a ((a, oe3) :: (X.pn ++ pins))) S3 hg hm q hdbg
          · exact ld_blt (X := X.suite a ((a, oe3) :: (X.pn ++ pins))) S3 hg hm hv q hnn hdbg
        refine test (LM.here ?_)
        cases b with
        | true =>
          refine codeAny_handlers_suite_as ?_
          refine HandSPX.lands_againZ fl3 fun h4 fl4 up4 => ?_
          have J4 : Inv X pins σ' H' { s' with heap := h4 } := J.landed nb fl4.1 ((up.trans up3).trans up4) os ag
          obtain ⟨oe4, vs4, he4, hz4, hd4⟩ := fl4.there
          have S4 := J4.suite he4 hd4 na nL nF
          refine store_ok (X := X.suite a ((a, oe4) :: (X.pn ++ pins))) (v := .ref a) S4 hN hi hloc rfl (fun s5 S5 => ?_) (.inr hln)
          refine wpAny_mono ((hsu a oe4 cls d (X.pn ++ pins) hz4 ⟨_, hd4⟩).run [] s5 _ H' _ S5 (hyes rfl a na)) (fun f s6 hsp => ?_) (fun _ _ z => False.elim z)
          have end_ : ∀ {σ6 : L2.St} {H6 : Hp} {Q : Shared → Prop}, Inv (X.suite a ((a, oe4) :: (X.pn ++ pins))) [] σ6 H6 s6 → (∀ s7, Inv X pins (σ6.set i none) H6 s7 → Q s7) →
              wpAny (model X.prog X.w) X.A (do bindName X.env n .none; unbindBehindTheSuite X.env n pos') (fun _ s7 => Q s7) X.xe s6 := fun {σ6 H6 Q} S6 hq => gone_ok (S6.unsuite ok) hN hi hln hq
          cases f with
          | next =>
            obtain ⟨σ6, H6, S6, q6⟩ := hsp
            exact end_ S6 fun s7 J7 => ⟨_, _, J7, q6⟩
          | brk =>
            obtain ⟨σ6, H6, S6, q6⟩ := hsp
            exact end_ S6 fun s7 J7 => ⟨_, _, J7, q6⟩
          | cont =>
            obtain ⟨σ6, H6, S6, q6⟩ := hsp
            exact end_ S6 fun s7 J7 => ⟨_, _, J7, q6⟩
          | ret u =>
            obtain ⟨v6, σ6, H6, S6, r6, q6⟩ := hsp
            exact end_ S6 fun s7 J7 => ⟨_, _, _, J7, r6, q6⟩
        | false =>
          show wpAny _ X.A (handleBy (.ref a) X.env hds2) _ _ _
          exact ih (hno rfl)
    exact go hh w
  · cases f with
    | next =>
      obtain ⟨σ', H', J', q⟩ := hsp
      exact wpAny_execs_nil ⟨σ', H', J'.ofTry ok, q⟩
    | brk =>
      obtain ⟨σ', H', J', q⟩ := hsp
      exact ⟨σ', H', J'.ofTry ok, q⟩
    | cont =>
      obtain ⟨σ', H', J', q⟩ := hsp
      exact ⟨σ', H', J'.ofTry ok, q⟩
    | ret u =>
      obtain ⟨v, σ', H', J', r, q⟩ := hsp
      exact ⟨v, σ', H', J'.ofTry ok, r, q⟩
end

/-- what a handler hands back -/
def tHd (K : PySem.W.Frag) (i : Nat) (h : Int → PyData) (a : Addr) (cls : Value) (d : Option Addr) : TS := fun D σ H => (i < σ.length → σ[i]? = some (some (.ref a))) ∧
  ∃ (C dx : Addr) (k : Int), cls = .ref C ∧ XfC K C ∧ PySem.W.findIn K (.ref C) "at" = some none ∧ d = some dx ∧ H dx = some (.xd [("at", .int k)]) ∧ ∀ v F' H', Stp (fun _ => False) H F' H' → Rp K F' H' v (h k) → D.rt v H'
/-- the handlers by their data -/
def hdTs (K : PySem.W.Frag) (i : Nat) : List (Addr × (Int → PyData)) → List (Value × (Addr → Value → Option Addr → TS))
  | [] => []
  | (C, h) :: r => (.ref C, tHd K i h) :: hdTs K i r
section
variable {X : Cx} {pos : Pos}
/-- e.at, e the caught error in slot i -/
theorem hd_at {i : Nat} {n : Str} {a : Addr} {oe : Obj} {cls : Value} {d : Option Addr} {pn : List (Addr × Obj)} {p1 p2 : Pos} {C : Addr} (hN : X.N[i]? = some n) (hv : Vis X.env.scope n) (hz : Zc cls d oe) (hf : ∃ vs, oe.data = .fields vs) (T : XfC X.K C) (hno : PySem.W.findIn X.K (.ref C) "at" = some none) (hd : (n == ("__debug__" : Str)) = false := by decide) (hcd : (n == ("__classdict__" : Str)) = false := by decide)
    (hb : attributeBase (.Name n p1) "at" X.env (eval (.Name n p1) X.env) = eval (.Name n p1) X.env := by rfl) : PE (X.suite a ((a, oe) :: pn)) (.Attribute (.Name n p1) "at" p2) (tXf a cls d C "at" (tVar i)) :=
  pe_xf (X := X) T hno hz hf (pe_var hN hv hd hcd) hb
theorem suite_at {i : Nat} {n : Str} {p1 p2 p3 : Pos} (hi : i < X.N.length) (hN : X.N[i]? = some n) (hv : Vis X.env.scope n) (hd : (n == ("__debug__" : Str)) = false := by decide) (hcd : (n == ("__classdict__" : Str)) = false := by decide)
    (hb : attributeBase (.Name n p1) "at" X.env (eval (.Name n p1) X.env) = eval (.Name n p1) X.env := by rfl) : ∀ (a : Addr) (oe : Obj) (cls : Value) (d : Option Addr) (pn : List (Addr × Obj)), Zc cls d oe → (∃ vs, oe.data = .fields vs) →
      PSs (X.suite a ((a, oe) :: pn)) [.Return (some (.Attribute (.Name n p1) "at" p2)) p3] (tHd X.K i (fun k => .int k) a cls d) := fun a oe cls d pn hz hf => by
  refine pss_one ⟨fun pins s σ H D I ⟨hσ, C, dx, k, ec, T, hno, ed, hx, hr⟩ => ?_⟩
  have hσ := hσ (by rw [I.len]; exact hi)
  refine (ps_ret (hd_at (X := X) hN hv hz hf T hno hd hcd hb)).run pins s σ H D I ?_
  exact ⟨_, hσ, rfl, ec, dx, _, .int k, ed, hx, rfl, hr _ _ _ Stp.refl (.int k)⟩
theorem suite_pair {i : Nat} {n z : Str} {p1 p2 p3 p4 p5 : Pos} {kk kt : Nat} (hi : i < X.N.length) (hN : X.N[i]? = some n) (hv : Vis X.env.scope n) (hd : (n == ("__debug__" : Str)) = false := by decide) (hcd : (n == ("__classdict__" : Str)) = false := by decide)
    (hb : attributeBase (.Name n p1) "at" X.env (eval (.Name n p1) X.env) = eval (.Name n p1) X.env := by rfl) (hst : ∀ Y : Cx, Y.env = X.env → starEach [Expr.Constant (.str z) kk p4, .Attribute (.Name n p1) "at" p2] Y.env = (false, eval (.Constant (.str z) kk p4) Y.env) :: starEach [.Attribute (.Name n p1) "at" p2] Y.env := by intro Y e; rw [e]; rfl) (hst2 : ∀ Y : Cx, Y.env = X.env → starEach [Expr.Attribute (.Name n p1) "at" p2] Y.env = (false, eval (.Attribute (.Name n p1) "at" p2) Y.env) :: starEach [] Y.env := by intro Y e; rw [e]; rfl) :
    ∀ (a : Addr) (oe : Obj) (cls : Value) (d : Option Addr) (pn : List (Addr × Obj)), Zc cls d oe → (∃ vs, oe.data = .fields vs) →
      PSs (X.suite a ((a, oe) :: pn)) [.Return (some (.Tuple [.Constant (.str z) kk p4, .Attribute (.Name n p1) "at" p2] kt p5)) p3] (tHd X.K i (fun k => .tuple [.str z, .int k]) a cls d) := fun a oe cls d pn hz hf => by
  refine pss_one ⟨fun pins s σ H D I ⟨hσ, C, dx, k, ec, T, hno, ed, hx, hr⟩ => ?_⟩
  have hσ := hσ (by rw [I.len]; exact hi)
  refine (ps_ret (pe_tup (pa_cons pe_str (pa_cons (hd_at (X := X) hN hv hz hf T hno hd hcd hb) pa_nil (hst2 _ rfl)) (hst _ rfl)))).run pins s σ H D I ?_
  refine ⟨_, hσ, rfl, ec, dx, _, .int k, ed, hx, rfl, by rw [sizeLine_eq]; exact (by decide : (2 : Nat) ≤ 16777216), fun p hp => hr _ _ _ (Stp.add hp) (Rp.newT hp (.cons (.str z) (.cons (.int k) .nil)))⟩
theorem suite_none {i : Nat} {p3 p4 : Pos} {kk : Nat} : ∀ (a : Addr) (oe : Obj) (cls : Value) (d : Option Addr) (pn : List (Addr × Obj)), Zc cls d oe → (∃ vs, oe.data = .fields vs) →
      PSs (X.suite a ((a, oe) :: pn)) [.Return (some (.Constant .none kk p4)) p3] (tHd X.K i (fun _ => .none) a cls d) := fun a oe cls d pn hz hf => by
  refine pss_one ⟨fun pins s σ H D I ⟨hσ, C, dx, k, ec, T, hno, ed, hx, hr⟩ => ?_⟩
  exact (ps_ret pe_non).run pins s σ H D I (hr _ _ _ Stp.refl .non)

/-- the handlers' classes; cs: the classes that may be raised -/
inductive HdD (X : Cx) (n : Str) (i : Nat) : List ExceptHandler → List (Str × (Int → PyData)) → List (Addr × (Int → PyData)) → Prop
  | nil : HdD X n i [] [] []
  | cons {x : Str} {C : Addr} {h : Int → PyData} {b₀ : Stmt} {suite : List Stmt} {np pos' : Pos} {hds : List ExceptHandler} {l : List (Str × (Int → PyData))} {m : List (Addr × (Int → PyData))} (hg : Gl X x) (hm : X.mg x = some (.ref C))
      (hsu : ∀ (a : Addr) (oe : Obj) (cls : Value) (d : Option Addr) (pn : List (Addr × Obj)), Zc cls d oe → (∃ vs, oe.data = .fields vs) → PSs (X.suite a ((a, oe) :: pn)) (b₀ :: suite) (tHd X.K i h a cls d)) (r : HdD X n i hds l m) (hdb : (x == ("__debug__" : Str)) = false := by decide) :
      HdD X n i (.ExceptHandler (some (.Name x np)) (some n) (b₀ :: suite) pos' :: hds) ((x, h) :: l) ((C, h) :: m)
theorem HdD.as {n : Str} {i : Nat} {hds : List ExceptHandler} {l : List (Str × (Int → PyData))} {m : List (Addr × (Int → PyData))} (h : HdD X n i hds l m) : HdsAs X n hds (hdTs X.K i m) := by
  induction h with
  | nil => exact .nil
  | cons hg hm hsu r hdb ih => exact .cons ⟨hg, hdb, .inl hm⟩ hsu ih
def sTryC (cs : List Str) (g : Ro → Out) (hs : List (Str × (Int → PyData))) : Ro → Out := fun ρ => match g ρ with
  | .exc c k => if cs.contains c = true then hdl hs c k else .bad
  | o => o
theorem pq_try {n : Str} {i : Nat} {W : WX} {cs : List Str} {body : List Stmt} {h₀ : ExceptHandler} {hds : List ExceptHandler} {l : List (Str × (Int → PyData))} {m : List (Addr × (Int → PyData))} {g : Ro → Out} (hs : X.stack = X.env :: X.outer) (hf : X.env.frame = some X.env.locals) (hN : X.N.Nodup) (hi : X.N[i]? = some n) (hln : X.env.kindOf n = some .local) (tk : Takes X W)
    (hcs : ∀ c ∈ cs, ∀ C, X.mg c = some (.ref C) → XfC X.K C ∧ PySem.W.findIn X.K (.ref C) "at" = some none ∧ ∀ x D, (∃ h, (x, h) ∈ l) → X.mg x = some (.ref D) → PySem.W.exmOne X.K (.ref C) (.ref D) = some (decide (c = x)))
    (hb : ∀ (W : WX) (pn : List (Addr × Obj)) (xe : Value → Shared → Prop), Takes (X.tr pn xe) W → PassesOwn (model X.prog X.w) X.A X.env xe → PSs (X.tr pn xe) body (tS X.K X.mg W g))
    (hh : HdD X n i (h₀ :: hds) l m) : PS X (.Try body (h₀ :: hds) [] [] pos) (tS X.K X.mg W (sTryC cs g l)) :=
  (ps_try_manyAs hs hf hN hi hln tk hb hh.as).imp fun D σ H ⟨B, F0, F, ρ, S, p⟩ => by
    refine ⟨B, F0, F, ρ, S, ?_⟩
    unfold sTryC at p
    cases eg : g ρ with
    | nx ρ' => rw [eg] at p; exact p
    | bk ρ' => rw [eg] at p; exact p
    | ct ρ' => rw [eg] at p; exact p
    | ret d => rw [eg] at p; exact p
    | bad => rw [eg] at p; exact p
    | exc c k =>
      rw [eg] at p
      have p : PostS X.K X.mg W B F0 F H D (if cs.contains c = true then hdl l c k else .bad) := p
      intro σ' H' dx C hB hx hm
      split at p
      · rename_i hc
        obtain ⟨hXf, hat, hex⟩ := hcs c (by simpa using hc) C hm
        clear eg hb tk
        have key : ∀ {hds : List ExceptHandler} {l' : List (Str × (Int → PyData))} {m' : List (Addr × (Int → PyData))}, HdD X n i hds l' m' → (∀ x h, (x, h) ∈ l' → (x, h) ∈ l) → PostS X.K X.mg W B F0 F H D (hdl l' c k) → wManyAs X.K i W D (hdTs X.K i m') (.ref C) (some dx) σ' H' := by
          intro hds l' m' hk
          induction hk with
          | nil => exact fun _ p => p σ' H' dx C hB hx hm
          | @cons x D' h b₀ suite np pos' hds l2 m2 hg hm2 hsu r hdb ih =>
            intro hsub p
            refine ⟨decide (c = x), hex x D' ⟨h, hsub x h (List.mem_cons_self ..)⟩ hm2, fun e a ha => ?_, fun e => ?_⟩
            · have e : c = x := of_decide_eq_true e
              unfold hdl at p
              rw [if_pos e] at p
              refine ⟨fun hl => List.getElem?_set_self (by simpa using hl), C, dx, k, rfl, hXf, hat, rfl, hx, fun v F' H2 st r => ?_⟩
              refine p v (fun b => F0 b ∨ F' b) H2 ⟨fun b h => .inl h, hB.trans st.keep, fun b h => h.imp id fun z => ?_⟩ (r.fk ⟨fun _ h => .inr h, fun _ _ _ h => h⟩)
              rcases st.new b z with q | q
              · exact q.elim
              · exact ⟨hB.free q.1, q.2⟩
            · have e : ¬ c = x := of_decide_eq_false e
              unfold hdl at p
              rw [if_neg e] at p
              exact ih (fun x h hm => hsub x h (List.mem_cons_of_mem _ hm)) p
        exact key hh (fun _ _ h => h) p
      · exact p.elim
end
end Pf
/-! Pf8: the greatest, the least of a list of data; sorted(set(..)); stars. -/
namespace Pf
open PySem PySem.Spec PyProof.Rows L2

/-! ### max, min over data that are read -/
section
variable {prog : Program} {w : World} {A : Around} {R : Result → Shared → Prop} {E : Value → Shared → Prop} {I : Addr} {fp wr : List Addr} {n : Nat} {P : Nat → Value → Prop} {St : Nat → Heap → Prop} {h0 : Heap}
def CmpAt (prog : Program) (w : World) (A : Around) (op : CmpOp) (h0 : Heap) (P : Nat → Value → Prop) (bt : Nat → Nat → Bool) : Prop :=
  ∀ (i j : Nat) (vi vj : Value) (s : Shared) (Q : Value → Shared → Prop) (E : Value → Shared → Prop), (∀ b o, h0.get? b = some o → s.heap.get? b = some o) → P i vi → P j vj → Q (.bool (bt i j)) s → wpAny (model prog w) A (richCompare op vi vj) Q E s

theorem max_loopA (W : Walks prog w A.in1 I fp wr n P St) (bt : Nat → Nat → Bool) (hcmp : CmpAt prog w A.in1 .Gt h0 P bt) (S : Addr) (hSf : S ∉ fp) (hS0 : h0.get? S = none) (hw0 : ∀ b ∈ wr, h0.get? b = none) :
    ∀ (k j : Nat) (s : Shared) (vb : Value) (c : Nat), n - (j + 1) = k → j + 1 ≤ n → St (j + 1) s.heap → P (argBest bt j) vb → (∀ b o, h0.get? b = some o → s.heap.get? b = some o) →
    s.heap.get? S = some { cls := .type "list", dict := none, data := .seq #[vb, vb] c, slots := #[] } →
    (∀ v h' tk, P (argBest bt (n - 1)) v → (∀ b o, b ∉ wr → b ≠ S → s.heap.get? b = some o → h'.get? b = some o) → R (.ok (.ret v)) { s with heap := h', toks := tk }) →
    codeAny (model prog w) A (.builtin "max.loop" ⟨[.ref I, .none, .ref S], []⟩) R s := by
  have hSw : S ∉ wr := fun h => hSf (W.sub _ h)
  have hname : (toString "max" ++ toString ".loop" : String) = "max.loop" := by decide
  have nw : ∀ {b : Addr} {o : Obj}, h0.get? b = some o → b ∉ wr := fun {b o} e hb => by rw [hw0 b hb] at e; cases e
  have nS : ∀ {b : Addr} {o : Obj}, h0.get? b = some o → b ≠ S := fun {b o} e hb => by rw [hb, hS0] at e; cases e
  intro k
  induction k with
  | zero =>
    intro j s vb c hk hj hst hPb kp hS hR
    have hin : j + 1 = n := by omega
    refine codeAny_builtin F.entry_max_loop ?_
    rw [Around.under_plainId F.plain_max_loop _]
    show wpAny _ A.in1 (seqItems? (.ref S) >>= _) _ _ s
    refine wpAny_bind (wpAny_seqItems hS rfl ?_)
    show wpAny _ A.in1 (tryCatch (pyNext (.ref I)) _ >>= _) _ _ s
    refine wpAny_bind (wpAny_tryCatch (W.done s _ _ (hin ▸ hst) fun h' tk hk' => ?_))
    have hS' := hk' S _ hSw hS
    show wpAny _ A.in1 (updateSeq S (fun _ => #[]) >>= _) _ _ _
    refine wpAny_bind ?_
    refine wpAny_updateSeq hS' rfl (wpAny_bind (wpAny_letGo (wpAny_pure ?_)))
    refine hR vb _ tk (by rw [← hin]; exact hPb) fun b o hbw hbS e => (Heap.get?_update_other _ _ (Ne.symm hbS)).trans (hk' b o hbw e)
  | succ k ih =>
    intro j s vb c hk hj hst hPb kp hS hR
    have hlt : j + 1 < n := by omega
    refine codeAny_builtin F.entry_max_loop ?_
    rw [Around.under_plainId F.plain_max_loop _]
    show wpAny _ A.in1 (seqItems? (.ref S) >>= _) _ _ s
    refine wpAny_bind (wpAny_seqItems hS rfl ?_)
    show wpAny _ A.in1 (tryCatch (pyNext (.ref I)) _ >>= _) _ _ s
    refine wpAny_bind (wpAny_tryCatch (W.item (j + 1) s _ _ hlt hst fun v h' tk hP hst' hk' => ?_))
    have hS' := hk' S _ hSw hS
    have kp' : ∀ b o, h0.get? b = some o → h'.get? b = some o := fun b o e => hk' b o (nw e) (kp b o e)
    show wpAny _ A.in1 (tryCatch (holding [v, v] (richCompare .Gt v vb >>= _)) _ >>= _) _ _ _
    refine wpAny_bind (wpAny_tryCatch (wpAny_holding (wpAny_bind (hcmp (j + 1) (argBest bt j) v vb _ _ _ kp' hP hPb ?_))))
    refine wpAny_bind (wpAny_holding (wpAny_truthy_bool ?_))
    refine wpAny_bind (wpAny_letGo (wpAny_pure ?_))
    cases hb : bt (j + 1) (argBest bt j) with
    | true =>
      simp only [if_true]
      refine wpAny_bind ?_
      refine wpAny_updateSeq hS' rfl (wpAny_bind (wpAny_letGo ?_))
      rw [hname]
      refine wpAny_pure ⟨plainId_quiet F.plain_max_loop _, ih (j + 1) _ v _ (by omega) hlt (W.frame _ _ _ hst' fun b hbf o e => ?_) (by simp only [argBest, hb, if_true]; exact hP) (fun b o e => ?_) (Heap.get?_update_self _ hS' rfl)
        fun v' h'' tk'' hP' hk'' => ?_⟩
      · exact (Heap.get?_update_other _ _ (fun h : S = b => hSf (by rw [h]; exact hbf))).trans e
      · exact (Heap.get?_update_other _ _ (Ne.symm (nS e))).trans (kp' b o e)
      · exact hR v' h'' tk'' hP' fun b o hbw hbS e => hk'' b o hbw hbS ((Heap.get?_update_other _ _ (Ne.symm hbS)).trans (hk' b o hbw e))
    | false =>
      simp only [Bool.false_eq_true, if_false]
      refine wpAny_bind (wpAny_letGo ?_)
      rw [hname]
      refine wpAny_pure ⟨plainId_quiet F.plain_max_loop _, ih (j + 1) _ vb c (by omega) hlt hst' (by simp only [argBest, hb, Bool.false_eq_true, if_false]; exact hPb) kp' hS' fun v' h'' tk'' hP' hk'' => ?_⟩
      exact hR v' h'' tk'' hP' fun b o hbw hbS e => hk'' b o hbw hbS (hk' b o hbw e)
theorem max_loop0 (W : Walks prog w A.in1 I fp wr n P St) (bt : Nat → Nat → Bool) (hcmp : CmpAt prog w A.in1 .Gt h0 P bt) (S : Addr) (hSf : S ∉ fp) (hS0 : h0.get? S = none) (hw0 : ∀ b ∈ wr, h0.get? b = none) (hn : 0 < n) {s : Shared} {c : Nat} (hst : St 0 s.heap)
    (kp : ∀ b o, h0.get? b = some o → s.heap.get? b = some o) (hS : s.heap.get? S = some { cls := .type "list", dict := none, data := .seq #[] c, slots := #[] })
    (hR : ∀ v h' tk, P (argBest bt (n - 1)) v → (∀ b o, b ∉ wr → b ≠ S → s.heap.get? b = some o → h'.get? b = some o) → R (.ok (.ret v)) { s with heap := h', toks := tk }) :
    codeAny (model prog w) A (.builtin "max.loop" ⟨[.ref I, .none, .ref S], []⟩) R s := by
  have hSw : S ∉ wr := fun h => hSf (W.sub _ h)
  have hname : (toString "max" ++ toString ".loop" : String) = "max.loop" := by decide
  have nw : ∀ {b : Addr} {o : Obj}, h0.get? b = some o → b ∉ wr := fun {b o} e hb => by rw [hw0 b hb] at e; cases e
  have nS : ∀ {b : Addr} {o : Obj}, h0.get? b = some o → b ≠ S := fun {b o} e hb => by rw [hb, hS0] at e; cases e
  refine codeAny_builtin F.entry_max_loop ?_
  rw [Around.under_plainId F.plain_max_loop _]
  show wpAny _ A.in1 (seqItems? (.ref S) >>= _) _ _ s
  refine wpAny_bind (wpAny_seqItems hS rfl ?_)
  show wpAny _ A.in1 (tryCatch (pyNext (.ref I)) _ >>= _) _ _ s
  refine wpAny_bind (wpAny_tryCatch (W.item 0 s _ _ hn hst fun v h' tk hP hst' hk' => ?_))
  have hS' := hk' S _ hSw hS
  have kp' : ∀ b o, h0.get? b = some o → h'.get? b = some o := fun b o e => hk' b o (nw e) (kp b o e)
  show wpAny _ A.in1 (updateSeq S (fun _ => #[v, v]) >>= _) _ _ _
  refine wpAny_bind ?_
  refine wpAny_updateSeq hS' rfl ?_
  rw [hname]
  refine wpAny_pure ⟨plainId_quiet F.plain_max_loop _, max_loopA (h0 := h0) W bt hcmp S hSf hS0 hw0 _ 0 _ v _ rfl hn (W.frame _ _ _ hst' fun b hbf o e => ?_) hP (fun b o e => ?_) (Heap.get?_update_self _ hS' rfl) fun v' h'' tk'' hP' hk'' => ?_⟩
  · exact (Heap.get?_update_other _ _ (fun h : S = b => hSf (by rw [h]; exact hbf))).trans e
  · exact (Heap.get?_update_other _ _ (Ne.symm (nS e))).trans (kp' b o e)
  · exact hR v' h'' tk'' hP' fun b o hbw hbS e => hk'' b o hbw hbS ((Heap.get?_update_other _ _ (Ne.symm hbS)).trans (hk' b o hbw e))
theorem call_maxA {s : Shared} {x : Value} {Q : Value → Shared → Prop}
    (h : wpAny (model prog w) A.in1 (pyIter x) (fun it s₂ => ∃ I fp wr n P St bt, it = .ref I ∧ Walks prog w A.in1 I fp wr n P St ∧ St 0 s₂.heap ∧ (∀ b ∈ fp, b < s₂.heap.objs.size) ∧ 0 < n ∧ CmpAt prog w A.in1 .Gt s.heap P bt ∧
      (∀ b o, s.heap.get? b = some o → s₂.heap.get? b = some o) ∧ (∀ b ∈ wr, s.heap.get? b = none) ∧
      ∀ v h' tk, P (argBest bt (n - 1)) v → (∀ b o, b ∉ wr → s₂.heap.get? b = some o → h'.get? b = some o) → Q v { s₂ with heap := h', toks := tk }) E s) :
    wpAny (model prog w) A (call (.builtin "max") [x]) Q E s := by
  have hname : (toString "max" ++ toString ".loop" : String) = "max.loop" := by decide
  refine call_function_tree F.kind_max F.plain_max F.entry_max (F.args_max1 _) ?_
  show wpAny _ A.in1 (Builtin.Builtins.bindParams "max" ["key", "default"] 0 ⟨[], []⟩ >>= _) _ _ s
  refine wpAny_bind (wpAny_of_eq (show Builtin.Builtins.bindParams "max" ["key", "default"] 0 ⟨[], []⟩ = pure [none, none] from rfl) ?_)
  refine wpAny_bind (wpAny_pure ?_)
  refine wpAny_bind (wpAny_mono h (fun it s₂ h₂ => ?_) fun _ _ e => e)
  obtain ⟨I, fp, wr, n, P, St, bt, rfl, W, hst, hfp, hn, hcmp, kp, hw0, hQ⟩ := h₂
  refine wpAny_bind (wpAny_newObj_type ?_)
  have hSf : s₂.heap.objs.size ∉ fp := fun hm => Nat.lt_irrefl _ (hfp _ hm)
  have hS0 : s.heap.get? s₂.heap.objs.size = none := by
    cases e : s.heap.get? s₂.heap.objs.size with
    | none => rfl
    | some o => exact absurd (Heap.lt_size (kp _ _ e)) (Nat.lt_irrefl _)
  rw [hname]
  refine wpAny_pure ⟨plainId_quiet F.plain_max_loop _, max_loop0 (h0 := s.heap) W bt hcmp s₂.heap.objs.size hSf hS0 hw0 hn (W.frame _ _ _ hst fun b _ o e => Heap.get?_push_of_some _ e) (fun b o e => Heap.get?_push_of_some _ (kp b o e)) (Heap.get?_push_size _ rfl) fun v h' tk hP hk => ?_⟩
  exact hQ v h' tk hP fun b o hbw e => hk b o hbw (Nat.ne_of_lt (Heap.lt_size e)) (Heap.get?_push_of_some _ e)

theorem min_loopA (W : Walks prog w A.in1 I fp wr n P St) (bt : Nat → Nat → Bool) (hcmp : CmpAt prog w A.in1 .Lt h0 P bt) (S : Addr) (hSf : S ∉ fp) (hS0 : h0.get? S = none) (hw0 : ∀ b ∈ wr, h0.get? b = none) :
    ∀ (k j : Nat) (s : Shared) (vb : Value) (c : Nat), n - (j + 1) = k → j + 1 ≤ n → St (j + 1) s.heap → P (argBest bt j) vb → (∀ b o, h0.get? b = some o → s.heap.get? b = some o) →
    s.heap.get? S = some { cls := .type "list", dict := none, data := .seq #[vb, vb] c, slots := #[] } →
    (∀ v h' tk, P (argBest bt (n - 1)) v → (∀ b o, b ∉ wr → b ≠ S → s.heap.get? b = some o → h'.get? b = some o) → R (.ok (.ret v)) { s with heap := h', toks := tk }) →
    codeAny (model prog w) A (.builtin "min.loop" ⟨[.ref I, .none, .ref S], []⟩) R s := by
  have hSw : S ∉ wr := fun h => hSf (W.sub _ h)
  have hname : (toString "min" ++ toString ".loop" : String) = "min.loop" := by decide
  have nw : ∀ {b : Addr} {o : Obj}, h0.get? b = some o → b ∉ wr := fun {b o} e hb => by rw [hw0 b hb] at e; cases e
  have nS : ∀ {b : Addr} {o : Obj}, h0.get? b = some o → b ≠ S := fun {b o} e hb => by rw [hb, hS0] at e; cases e
  intro k
  induction k with
  | zero =>
    intro j s vb c hk hj hst hPb kp hS hR
    have hin : j + 1 = n := by omega
    refine codeAny_builtin F.entry_min_loop ?_
    rw [Around.under_plainId F.plain_min_loop _]
    show wpAny _ A.in1 (seqItems? (.ref S) >>= _) _ _ s
    refine wpAny_bind (wpAny_seqItems hS rfl ?_)
    show wpAny _ A.in1 (tryCatch (pyNext (.ref I)) _ >>= _) _ _ s
    refine wpAny_bind (wpAny_tryCatch (W.done s _ _ (hin ▸ hst) fun h' tk hk' => ?_))
    have hS' := hk' S _ hSw hS
    show wpAny _ A.in1 (updateSeq S (fun _ => #[]) >>= _) _ _ _
    refine wpAny_bind ?_
    refine wpAny_updateSeq hS' rfl (wpAny_bind (wpAny_letGo (wpAny_pure ?_)))
    refine hR vb _ tk (by rw [← hin]; exact hPb) fun b o hbw hbS e => (Heap.get?_update_other _ _ (Ne.symm hbS)).trans (hk' b o hbw e)
  | succ k ih =>
    intro j s vb c hk hj hst hPb kp hS hR
    have hlt : j + 1 < n := by omega
    refine codeAny_builtin F.entry_min_loop ?_
    rw [Around.under_plainId F.plain_min_loop _]
    show wpAny _ A.in1 (seqItems? (.ref S) >>= _) _ _ s
    refine wpAny_bind (wpAny_seqItems hS rfl ?_)
    show wpAny _ A.in1 (tryCatch (pyNext (.ref I)) _ >>= _) _ _ s
    refine wpAny_bind (wpAny_tryCatch (W.item (j + 1) s _ _ hlt hst fun v h' tk hP hst' hk' => ?_))
    have hS' := hk' S _ hSw hS
    have kp' : ∀ b o, h0.get? b = some o → h'.get? b = some o := fun b o e => hk' b o (nw e) (kp b o e)
    show wpAny _ A.in1 (tryCatch (holding [v, v] (richCompare .Lt v vb >>= _)) _ >>= _) _ _ _
    refine wpAny_bind (wpAny_tryCatch (wpAny_holding (wpAny_bind (hcmp (j + 1) (argBest bt j) v vb _ _ _ kp' hP hPb ?_))))
    refine wpAny_bind (wpAny_holding (wpAny_truthy_bool ?_))
    refine wpAny_bind (wpAny_letGo (wpAny_pure ?_))
    cases hb : bt (j + 1) (argBest bt j) with
    | true =>
      simp only [if_true]
      refine wpAny_bind ?_
      refine wpAny_updateSeq hS' rfl (wpAny_bind (wpAny_letGo ?_))
      rw [hname]
      refine wpAny_pure ⟨plainId_quiet F.plain_min_loop _, ih (j + 1) _ v _ (by omega) hlt (W.frame _ _ _ hst' fun b hbf o e => ?_) (by simp only [argBest, hb, if_true]; exact hP) (fun b o e => ?_) (Heap.get?_update_self _ hS' rfl)
        fun v' h'' tk'' hP' hk'' => ?_⟩
      · exact (Heap.get?_update_other _ _ (fun h : S = b => hSf (by rw [h]; exact hbf))).trans e
      · exact (Heap.get?_update_other _ _ (Ne.symm (nS e))).trans (kp' b o e)
      · exact hR v' h'' tk'' hP' fun b o hbw hbS e => hk'' b o hbw hbS ((Heap.get?_update_other _ _ (Ne.symm hbS)).trans (hk' b o hbw e))
    | false =>
      simp only [Bool.false_eq_true, if_false]
      refine wpAny_bind (wpAny_letGo ?_)
      rw [hname]
      refine wpAny_pure ⟨plainId_quiet F.plain_min_loop _, ih (j + 1) _ vb c (by omega) hlt hst' (by simp only [argBest, hb, Bool.false_eq_true, if_false]; exact hPb) kp' hS' fun v' h'' tk'' hP' hk'' => ?_⟩
      exact hR v' h'' tk'' hP' fun b o hbw hbS e => hk'' b o hbw hbS (hk' b o hbw e)
theorem min_loop0 (W : Walks prog w A.in1 I fp wr n P St) (bt : Nat → Nat → Bool) (hcmp : CmpAt prog w A.in1 .Lt h0 P bt) (S : Addr) (hSf : S ∉ fp) (hS0 : h0.get? S = none) (hw0 : ∀ b ∈ wr, h0.get? b = none) (hn : 0 < n) {s : Shared} {c : Nat} (hst : St 0 s.heap)
    (kp : ∀ b o, h0.get? b = some o → s.heap.get? b = some o) (hS : s.heap.get? S = some { cls := .type "list", dict := none, data := .seq #[] c, slots := #[] })
    (hR : ∀ v h' tk, P (argBest bt (n - 1)) v → (∀ b o, b ∉ wr → b ≠ S → s.heap.get? b = some o → h'.get? b = some o) → R (.ok (.ret v)) { s with heap := h', toks := tk }) :
    codeAny (model prog w) A (.builtin "min.loop" ⟨[.ref I, .none, .ref S], []⟩) R s := by
  have hSw : S ∉ wr := fun h => hSf (W.sub _ h)
  have hname : (toString "min" ++ toString ".loop" : String) = "min.loop" := by decide
  have nw : ∀ {b : Addr} {o : Obj}, h0.get? b = some o → b ∉ wr := fun {b o} e hb => by rw [hw0 b hb] at e; cases e
  have nS : ∀ {b : Addr} {o : Obj}, h0.get? b = some o → b ≠ S := fun {b o} e hb => by rw [hb, hS0] at e; cases e
  refine codeAny_builtin F.entry_min_loop ?_
  rw [Around.under_plainId F.plain_min_loop _]
  show wpAny _ A.in1 (seqItems? (.ref S) >>= _) _ _ s
  refine wpAny_bind (wpAny_seqItems hS rfl ?_)
  show wpAny _ A.in1 (tryCatch (pyNext (.ref I)) _ >>= _) _ _ s
  refine wpAny_bind (wpAny_tryCatch (W.item 0 s _ _ hn hst fun v h' tk hP hst' hk' => ?_))
  have hS' := hk' S _ hSw hS
  have kp' : ∀ b o, h0.get? b = some o → h'.get? b = some o := fun b o e => hk' b o (nw e) (kp b o e)
  show wpAny _ A.in1 (updateSeq S (fun _ => #[v, v]) >>= _) _ _ _
  refine wpAny_bind ?_
  refine wpAny_updateSeq hS' rfl ?_
  rw [hname]
  refine wpAny_pure ⟨plainId_quiet F.plain_min_loop _, min_loopA (h0 := h0) W bt hcmp S hSf hS0 hw0 _ 0 _ v _ rfl hn (W.frame _ _ _ hst' fun b hbf o e => ?_) hP (fun b o e => ?_) (Heap.get?_update_self _ hS' rfl) fun v' h'' tk'' hP' hk'' => ?_⟩
  · exact (Heap.get?_update_other _ _ (fun h : S = b => hSf (by rw [h]; exact hbf))).trans e
  · exact (Heap.get?_update_other _ _ (Ne.symm (nS e))).trans (kp' b o e)
  · exact hR v' h'' tk'' hP' fun b o hbw hbS e => hk'' b o hbw hbS ((Heap.get?_update_other _ _ (Ne.symm hbS)).trans (hk' b o hbw e))
theorem call_minA {s : Shared} {x : Value} {Q : Value → Shared → Prop}
    (h : wpAny (model prog w) A.in1 (pyIter x) (fun it s₂ => ∃ I fp wr n P St bt, it = .ref I ∧ Walks prog w A.in1 I fp wr n P St ∧ St 0 s₂.heap ∧ (∀ b ∈ fp, b < s₂.heap.objs.size) ∧ 0 < n ∧ CmpAt prog w A.in1 .Lt s.heap P bt ∧
      (∀ b o, s.heap.get? b = some o → s₂.heap.get? b = some o) ∧ (∀ b ∈ wr, s.heap.get? b = none) ∧
      ∀ v h' tk, P (argBest bt (n - 1)) v → (∀ b o, b ∉ wr → s₂.heap.get? b = some o → h'.get? b = some o) → Q v { s₂ with heap := h', toks := tk }) E s) :
    wpAny (model prog w) A (call (.builtin "min") [x]) Q E s := by
  have hname : (toString "min" ++ toString ".loop" : String) = "min.loop" := by decide
  refine call_function_tree F.kind_min F.plain_min F.entry_min (F.args_min1 _) ?_
  show wpAny _ A.in1 (Builtin.Builtins.bindParams "min" ["key", "default"] 0 ⟨[], []⟩ >>= _) _ _ s
  refine wpAny_bind (wpAny_of_eq (show Builtin.Builtins.bindParams "min" ["key", "default"] 0 ⟨[], []⟩ = pure [none, none] from rfl) ?_)
  refine wpAny_bind (wpAny_pure ?_)
  refine wpAny_bind (wpAny_mono h (fun it s₂ h₂ => ?_) fun _ _ e => e)
  obtain ⟨I, fp, wr, n, P, St, bt, rfl, W, hst, hfp, hn, hcmp, kp, hw0, hQ⟩ := h₂
  refine wpAny_bind (wpAny_newObj_type ?_)
  have hSf : s₂.heap.objs.size ∉ fp := fun hm => Nat.lt_irrefl _ (hfp _ hm)
  have hS0 : s.heap.get? s₂.heap.objs.size = none := by
    cases e : s.heap.get? s₂.heap.objs.size with
    | none => rfl
    | some o => exact absurd (Heap.lt_size (kp _ _ e)) (Nat.lt_irrefl _)
  rw [hname]
  refine wpAny_pure ⟨plainId_quiet F.plain_min_loop _, min_loop0 (h0 := s.heap) W bt hcmp s₂.heap.objs.size hSf hS0 hw0 hn (W.frame _ _ _ hst fun b _ o e => Heap.get?_push_of_some _ e) (fun b o e => Heap.get?_push_of_some _ (kp b o e)) (Heap.get?_push_size _ rfl) fun v h' tk hP hk => ?_⟩
  exact hQ v h' tk hP fun b o hbw e => hk b o hbw (Nat.ne_of_lt (Heap.lt_size e)) (Heap.get?_push_of_some _ e)

end


/-- the place of the best: later ones only if better -/
def okCmp (ds : List PyData) : Bool := ds.all (fun a => ds.all (fun b => PySem.W.alike a b) && SeqAt.shaped a && !isNo a)
def maxTD : List PyData → Option PyData
  | [.list ds] => if okCmp ds = true ∧ ds.length ≤ 16777216 then ds[argBest (fun i j => PySem.W.dataLt (ds.getD j .none) (ds.getD i .none)) (ds.length - 1)]? else none
  | _ => none
def minTD : List PyData → Option PyData
  | [.list ds] => if okCmp ds = true ∧ ds.length ≤ 16777216 then ds[argBest (fun i j => PySem.W.dataLt (ds.getD i .none) (ds.getD j .none)) (ds.length - 1)]? else none
  | _ => none
def rMaxT (K : PySem.W.Frag) : List V → Hp → VK → Prop := fun vs H Q => ∃ (a : Addr) (xs : List V) (ds : List PyData), vs = [.ref a] ∧ SqL K H a xs ∧ DpAll K H xs ds ∧ okCmp ds = true ∧ 0 < ds.length ∧
  ∀ x, xs[argBest (fun i j => PySem.W.dataLt (ds.getD j .none) (ds.getD i .none)) (ds.length - 1)]? = some x → Q x H
def rMinT (K : PySem.W.Frag) : List V → Hp → VK → Prop := fun vs H Q => ∃ (a : Addr) (xs : List V) (ds : List PyData), vs = [.ref a] ∧ SqL K H a xs ∧ DpAll K H xs ds ∧ okCmp ds = true ∧ 0 < ds.length ∧
  ∀ x, xs[argBest (fun i j => PySem.W.dataLt (ds.getD i .none) (ds.getD j .none)) (ds.length - 1)]? = some x → Q x H
theorem _root_.L2.DpAll.at' {K : PySem.W.Frag} {H : Hp} : ∀ {xs : List V} {ds : List PyData} {i : Nat} {x : V}, DpAll K H xs ds → xs[i]? = some x → ∃ d, ds[i]? = some d ∧ Dp K H x d
  | _, _, _, _, .nil, e => by simp at e
  | _, _, 0, _, .cons a b, e => by simp at e; subst e; exact ⟨_, rfl, a⟩
  | _, _, i + 1, _, .cons a b, e => by
    have := L2.DpAll.at' (i := i) b (by simpa using e)
    simpa using this
theorem _root_.L2.DpAll.len' {K : PySem.W.Frag} {H : Hp} : ∀ {xs : List V} {ds : List PyData}, DpAll K H xs ds → xs.length = ds.length
  | _, _, .nil => rfl
  | _, _, .cons a b => by simp [L2.DpAll.len' b]
theorem vals_right : ∀ {xs : List V} {us : List Value} {i : Nat} {u : Value}, Vals xs us → us[i]? = some u → ∃ x, xs[i]? = some x ∧ RelV x u
  | _, _, _, _, .nil, e => by simp at e
  | _, _, 0, _, .cons a b, e => by simp at e; subst e; exact ⟨_, rfl, a⟩
  | _, _, i + 1, _, .cons a b, e => by
    have := vals_right (i := i) b (by simpa using e)
    simpa using this
theorem argBest_le (bt : Nat → Nat → Bool) : ∀ k, argBest bt k ≤ k
  | 0 => Nat.le_refl _
  | k + 1 => by
    unfold argBest
    split
    · exact Nat.le_refl _
    · exact Nat.le_succ_of_le (argBest_le bt k)
theorem okCmp_at {ds : List PyData} (h : okCmp ds = true) {a b : PyData} (ha : a ∈ ds) (hb : b ∈ ds) : PySem.W.alike a b = true ∧ SeqAt.shaped a = true ∧ a ≠ .none := by
  have h1 := List.all_eq_true.mp h a ha
  simp only [Bool.and_eq_true] at h1
  refine ⟨List.all_eq_true.mp h1.1.1 b hb, h1.1.2, fun e => ?_⟩
  subst e
  have := h1.2
  simp [isNo] at this
section
variable {X : Cx}

theorem cr_maxT (hc : X.calm = true) (hu : X.A.units + 66 < cLine) : CallR X (.builtin "max") (rMaxT X.K) := by
  intro pins s σ H vs us Q I r h
  obtain ⟨a, xs, ds, rfl, hs, hd, hok, hne, q⟩ := h
  obtain ⟨its, rv, hl, hz⟩ := I.list hs
  have hlen := rv.length
  have hlen2 := hd.len'
  rw [Vals.ref1 r]
  refine call_maxA (iter_anyList hl.isList fun s₂ e st hfp hlI => ?_)
  subst e
  refine ⟨_, _, _, _, _, _, (fun i j => PySem.W.dataLt (ds.getD j .none) (ds.getD i .none)), rfl, Walks.list (A := X.A.in1) (I.ok.hd hc) _ a hlI its.toArray, st, hfp, by simp; omega, fun i j vi vj s' Q' E' kp hi hj hq => ?_, (fun b o e => Heap.get?_push_of_some _ e), fun b hb => ?_, fun v h' tk hP hk => ?_⟩
  · have hi' : its[i]? = some vi := by simpa using hi
    have hj' : its[j]? = some vj := by simpa using hj
    obtain ⟨x, e1, r1⟩ := vals_right rv hi'
    obtain ⟨y, e2, r2⟩ := vals_right rv hj'
    obtain ⟨dx, f1, p1⟩ := hd.at' e1
    obtain ⟨dy, f2, p2⟩ := hd.at' e2
    obtain ⟨as, g1⟩ := Dp.reads I dx x vi p1 r1
    obtain ⟨bs, g2⟩ := Dp.reads I dy y vj p2 r2
    obtain ⟨al, sh, nn⟩ := okCmp_at hok (List.mem_of_getElem? f1) (List.mem_of_getElem? f2)
    have q1 : ds.getD i .none = dx := by rw [List.getD_eq_getElem?_getD, f1]; rfl
    have q2 : ds.getD j .none = dy := by rw [List.getD_eq_getElem?_getD, f2]; rfl
    have hdep : dx.depth ≤ 64 := by
      unfold SeqAt.shaped at sh
      simp only [Bool.and_eq_true, decide_eq_true_eq] at sh
      exact sh.2
    refine PySem.W.gt_data (PyProof.Rows.Reads.keeps kp g1) (PyProof.Rows.Reads.keeps kp g2) al nn ?_ ?_
    · show X.A.units + 1 + min dx.depth dy.depth < cLine
      omega
    · simp only [q1, q2] at hq
      exact hq
  · rcases List.mem_singleton.mp hb with rfl
    cases e : s.heap.get? s.heap.objs.size with
    | none => rfl
    | some o => exact absurd (Heap.lt_size e) (Nat.lt_irrefl _)
  · have hv : its[argBest (fun i j => PySem.W.dataLt (ds.getD j .none) (ds.getD i .none)) (ds.length - 1)]? = some v := by
      have : its.length = ds.length := by omega
      simpa [this] using hP
    obtain ⟨x, e1, r1⟩ := vals_right rv hv
    exact ⟨x, H, I.kept (old_kept hk), r1, q x e1⟩

theorem cr_minT (hc : X.calm = true) (hu : X.A.units + 66 < cLine) : CallR X (.builtin "min") (rMinT X.K) := by
  intro pins s σ H vs us Q I r h
  obtain ⟨a, xs, ds, rfl, hs, hd, hok, hne, q⟩ := h
  obtain ⟨its, rv, hl, hz⟩ := I.list hs
  have hlen := rv.length
  have hlen2 := hd.len'
  rw [Vals.ref1 r]
  refine call_minA (iter_anyList hl.isList fun s₂ e st hfp hlI => ?_)
  subst e
  refine ⟨_, _, _, _, _, _, (fun i j => PySem.W.dataLt (ds.getD i .none) (ds.getD j .none)), rfl, Walks.list (A := X.A.in1) (I.ok.hd hc) _ a hlI its.toArray, st, hfp, by simp; omega, fun i j vi vj s' Q' E' kp hi hj hq => ?_, (fun b o e => Heap.get?_push_of_some _ e), fun b hb => ?_, fun v h' tk hP hk => ?_⟩
  · have hi' : its[i]? = some vi := by simpa using hi
    have hj' : its[j]? = some vj := by simpa using hj
    obtain ⟨x, e1, r1⟩ := vals_right rv hi'
    obtain ⟨y, e2, r2⟩ := vals_right rv hj'
    obtain ⟨dx, f1, p1⟩ := hd.at' e1
    obtain ⟨dy, f2, p2⟩ := hd.at' e2
    obtain ⟨as, g1⟩ := Dp.reads I dx x vi p1 r1
    obtain ⟨bs, g2⟩ := Dp.reads I dy y vj p2 r2
    obtain ⟨al, sh, nn⟩ := okCmp_at hok (List.mem_of_getElem? f1) (List.mem_of_getElem? f2)
    have q1 : ds.getD i .none = dx := by rw [List.getD_eq_getElem?_getD, f1]; rfl
    have q2 : ds.getD j .none = dy := by rw [List.getD_eq_getElem?_getD, f2]; rfl
    have hdep : dx.depth ≤ 64 := by
      unfold SeqAt.shaped at sh
      simp only [Bool.and_eq_true, decide_eq_true_eq] at sh
      exact sh.2
    refine PySem.W.lt_data (PyProof.Rows.Reads.keeps kp g1) (PyProof.Rows.Reads.keeps kp g2) al nn ?_ ?_
    · show X.A.units + 1 + min dx.depth dy.depth < cLine
      omega
    · simp only [q1, q2] at hq
      exact hq
  · rcases List.mem_singleton.mp hb with rfl
    cases e : s.heap.get? s.heap.objs.size with
    | none => rfl
    | some o => exact absurd (Heap.lt_size e) (Nat.lt_irrefl _)
  · have hv : its[argBest (fun i j => PySem.W.dataLt (ds.getD i .none) (ds.getD j .none)) (ds.length - 1)]? = some v := by
      have : its.length = ds.length := by omega
      simpa [this] using hP
    obtain ⟨x, e1, r1⟩ := vals_right rv hv
    exact ⟨x, H, I.kept (old_kept hk), r1, q x e1⟩

end
section
variable {K : PySem.W.Frag}
theorem shaped_all {ds : List PyData} (h : okCmp ds = true) : PyData.canLayAll0 ds = true := by
  have key : ∀ l : List PyData, (∀ a ∈ l, a.canLay0 = true) → PyData.canLayAll0 l = true := by
    intro l
    induction l with
    | nil => intro _; rfl
    | cons a l ih =>
      intro h
      simp only [PyData.canLayAll0, Bool.and_eq_true]
      exact ⟨h a (List.mem_cons_self ..), ih fun b hb => h b (List.mem_cons_of_mem _ hb)⟩
  exact key ds fun a ha => SeqAt.canLay_of_shaped (okCmp_at h ha ha).2.1

theorem sem_maxT : SemC K (rMaxT K) maxTD := by
  intro F H vs ds z Q rs hs h
  unfold maxTD at hs
  split at hs
  · rename_i ds
    split at hs
    · rename_i hc
      obtain ⟨v, rfl, rv⟩ := rs.one
      obtain ⟨a, xs, rfl, ha, r⟩ := rv.list
      have hlt := (List.getElem?_eq_some_iff.mp hs).1
      refine ⟨a, xs, ds, rfl, SqL.of ha, Rps.dp ds xs (shaped_all hc.1) r, hc.1, by omega, fun x hx => ?_⟩
      obtain ⟨v, h1, h2⟩ := r.get hs
      rw [h1] at hx
      cases hx
      exact h F H _ Stp.refl h2
    · cases hs
  · cases hs

theorem sem_minT : SemC K (rMinT K) minTD := by
  intro F H vs ds z Q rs hs h
  unfold minTD at hs
  split at hs
  · rename_i ds
    split at hs
    · rename_i hc
      obtain ⟨v, rfl, rv⟩ := rs.one
      obtain ⟨a, xs, rfl, ha, r⟩ := rv.list
      have hlt := (List.getElem?_eq_some_iff.mp hs).1
      refine ⟨a, xs, ds, rfl, SqL.of ha, Rps.dp ds xs (shaped_all hc.1) r, hc.1, by omega, fun x hx => ?_⟩
      obtain ⟨v, h1, h2⟩ := r.get hs
      rw [h1] at hx
      cases hx
      exact h F H _ Stp.refl h2
    · cases hs
  · cases hs

end
end Pf
/-! Pf9: set(list), sorted(set(list)). -/
namespace Pf
open PySem PySem.Spec PyProof.Rows L2

theorem setR_congr {w : World} {h : Heap} {a : Addr} {S S' : Int → Bool} {n n' : Nat} (hS : SetR w h a S n) (e : ∀ k, S k = S' k) (en : n = n') : SetR w h a S' n' := by
  have : S = S' := funext e
  subst this; subst en; exact hS
section
variable {prog : Program} {w : World} {A : Around} {R : Result → Shared → Prop} {I : Addr} {fp wr : List Addr} {G : Array GenState → Array GenState → Prop} {n : Nat} {P : Nat → Value → Prop} {St : Nat → Shared → Prop}
theorem setR_update_loop (W : WalksS prog w A.in1 I fp wr G n P St) (S : Addr) (hSf : S ∉ fp)
    (val : Nat → Int) (hval : ∀ i v, P i v → ∃ t, v = .int (val i) t) (hb : n + 1 < scanBound) :
    ∀ (k i : Nat) (s : Shared), n - i = k → i ≤ n → St i s →
      SetR w s.heap S (fun k' => (firstMet val i).any (· == k')) (firstMet val i).length →
      (∀ s', Moved (S :: wr) G s s' → SetR w s'.heap S (fun k' => (firstMet val n).any (· == k')) (firstMet val n).length → R (.ok (.ret .none)) s') →
      codeAny (model prog w) A (.builtin "set.update.loop" ⟨[.ref S, .ref I], []⟩) R s := by
  have hSw : S ∉ wr := fun h => hSf (W.sub _ h)
  have hsub : ∀ b ∈ wr, b ∈ S :: wr := fun b hb => List.mem_cons_of_mem _ hb
  intro k
  induction k with
  | zero =>
    intro i s hk hi hst hS hR
    have hin : i = n := by omega
    subst hin
    refine codeAny_builtin F.entry_set_update_loop ?_
    rw [Around.under_plainId F.plain_set_update_loop _]
    show wpAny _ A.in1 (pyNext (.ref I) >>= _) _ _ s
    refine wpAny_bind (W.done s _ _ hst fun s' hm => ?_)
    show wpAny _ A.in1 (ret Value.none) _ _ s'
    exact wpAny_pure (hR s' (hm.mono hsub) (by
      exact hS.at fun o ho => hm.heap S _ hSw ho))
  | succ k ih =>
    intro i s hk hi hst hS hR
    have hlt : i < n := by omega
    refine codeAny_builtin F.entry_set_update_loop ?_
    rw [Around.under_plainId F.plain_set_update_loop _]
    show wpAny _ A.in1 (pyNext (.ref I) >>= _) _ _ s
    refine wpAny_bind (W.item i s _ _ hlt hst fun v s' hP hst' hm => ?_)
    obtain ⟨t, rfl⟩ := hval i v hP
    have hS' : SetR w s'.heap S (fun k' => (firstMet val i).any (· == k')) (firstMet val i).length := hS.at fun o ho => hm.heap S _ hSw ho
    show wpAny _ A.in1 (holding [Value.int (val i) t] (setAdd S (.int (val i) t)) >>= _) _ _ s'
    refine wpAny_bind (wpAny_holding ?_)
    unfold setAdd
    refine wpAny_holding ?_
    refine wpAny_bind ((intKind prog w).pyHash (k := val i) (intKind_is _ _ _ _) ?_)
    have hroom : (firstMet val i).length + 1 < scanBound := by have := firstMet_length_le val i; omega
    refine setR_add_hashed (s := { s' with toks := s'.toks + 1 }) hS' hroom fun h' hsb hS2 => ?_

    have hSi : SetR w h' S (fun k' => (firstMet val (i + 1)).any (· == k')) (firstMet val (i + 1)).length :=
      setR_congr hS2 (fun k' => by rw [firstMet_succ, step_any]) (by rw [firstMet_succ, step_length])
    refine wpAny_pure ⟨plainId_quiet F.plain_set_update_loop _, ih (i + 1) _ (by omega) hlt (W.frame _ s' _ _ hst' (Nat.le_succ _) fun b hb o e => ?_) hSi fun s'' hm'' hS'' => ?_⟩
    · rw [hsb.2 b (fun h : b = S => hSf (by rw [← h]; exact hb))]; exact e
    · refine hR s'' (Moved.trans W.gtrans ((hm.mono hsub).then_heap (Nat.le_succ _) fun b o hb e => ?_) hm'') hS''
      rw [hsb.2 b (fun h : b = S => hb (by rw [h]; exact List.mem_cons_self))]; exact e
end
section
variable {prog : Program} {w : World} {A : Around} {E : Value → Shared → Prop} {s : Shared}
theorem code_setR_new_1 (a : Value) {Q₁ : Value → Shared → Prop}
    (h : Q₁ (.ref s.heap.objs.size) { s with heap := s.heap.push { cls := .type "set", dict := none, data := .set #[] 0 (.fresh 0 0 (!w.params.followText "set-order")) } }) :
    codeAny (model prog w) A (.call (.builtin "set.__new__") ⟨[.type "set", a], []⟩) (wants Q₁ E) s := by
  refine codeAny_of_tree ?_
  show wpAny _ A.in1 (do checkBuiltinCall "set.__new__" ⟨[.type "set", a], []⟩; again (.builtin "set.__new__" ⟨[.type "set", a], []⟩)) _ _ s
  refine wpAny_bind (wpAny_of_eq (F.newCall_set_1 a) (wpAny_pure ⟨plainId_quiet F.plain_set_new _, codeAny_builtin F.entry_set_new ?_⟩))
  rw [Around.under_plainId F.plain_set_new _]
  unfold Builtin.«set.__new__» Builtin.Frozenset.newClass
  have hsub := sub_set_self
  obtain ⟨hp, g, d, tk, os⟩ := s
  dsimp only
  wp_walk
  refine wpAny_askSetting (wpAny_pure ?_)
  dsimp only
  simp only [newObj]
  refine wpAny_bind (wpAny_alloc (wpAny_pure ?_))
  exact wpAny_pure h

theorem call_setR_list {l : Addr} {items : Array Value} {ns : List Int} {Q : Value → Shared → Prop}
    (hh : A.handled = none) (hl : s.heap.IsList l items) (hi : PyProof.Rows.IntsAre items.toList ns) (hb : items.size + 1 < scanBound)
    (h : ∀ (h' : Heap) (tk : Nat), SetR w h' s.heap.objs.size (fun k' => (PyProof.Rows.firstMet (fun i => ns.getD i 0) items.size).any (· == k')) (PyProof.Rows.firstMet (fun i => ns.getD i 0) items.size).length →
      (∀ b o, b < s.heap.objs.size → s.heap.get? b = some o → h'.get? b = some o) → Q (.ref s.heap.objs.size) { s with heap := h', toks := tk }) :
    wpAny (model prog w) A (call (.type "set") [.ref l]) Q E s := by
  obtain ⟨c, tl, hmro⟩ := F.called_set.mro
  have hmade := F.called_set.made
  have hsub := F.called_set.sub
  refine wpAny_call (codeAny_of_tree ?_)
  show wpAny _ _ (callAny (.type "set") _) _ _ _
  refine wpAny_pure ⟨Code.quiet_builtin _ (by decide +kernel), codeAny_builtin F.entry_type_call ?_⟩
  rw [Around.under_plain (weight_type_call_type "set" [.ref l] []) rfl]
  have h1 := F.called_set.notType
  have h2 := F.called_set.canCreate
  have hct := F.typeCall_set_1 (.ref l)
  repeat (any_goals (first | assumption | wp_step))

  refine codeAny_mono (code_setR_new_1 (.ref l) (E := E) (Q₁ := fun obj s₁ => ∃ led : Bool, led = (!w.params.followText "set-order") ∧ obj = .ref s.heap.objs.size ∧ s₁ = { s with heap := s.heap.push { cls := .type "set", dict := none, data := .set #[] 0 (.fresh 0 0 led) } }) ⟨_, rfl, rfl, rfl⟩) fun r s₁ hr => ?_
  cases r with
  | error e => exact hr
  | ok fl =>
    cases fl with
    | ret obj =>
      obtain ⟨led, hled, rfl, rfl⟩ := hr
      have hS : (s.heap.push { cls := .type "set", dict := none, data := .set #[] 0 (.fresh 0 0 led) }).get? s.heap.objs.size = some { cls := .type "set", dict := none, data := .set #[] 0 (.fresh 0 0 led) } := Heap.get?_push_size _ rfl
      have hT : Shared.TypeIs { s with heap := s.heap.push { cls := .type "set", dict := none, data := .set #[] 0 (.fresh 0 0 led) } } (.ref s.heap.objs.size) "set" := ⟨_, hS, rfl⟩
      have hli := F.called_set.init.lookup
      have hbi := F.called_set.init.bind (.ref s.heap.objs.size)
      repeat (any_goals (first | assumption | wp_step))

      refine codeAny_mono (codeAny_call_builtin (R := wants (fun r s₂ => r = .none ∧ ∃ h' tk, s₂ = { s with heap := h', toks := tk } ∧
          SetR w h' s.heap.objs.size (fun k' => (PyProof.Rows.firstMet (fun i => ns.getD i 0) items.size).any (· == k')) (PyProof.Rows.firstMet (fun i => ns.getD i 0) items.size).length ∧
          (∀ b o, b < s.heap.objs.size → s.heap.get? b = some o → h'.get? b = some o)) E) F.called_set.init.plain F.entry_set_init (check_set_init_1 hT ?_)) fun r₂ s₂ hr₂ => ?_
      · obtain ⟨ol, hol, hcl, nl, hdl⟩ := hl
        obtain ⟨ocls, odict, odata, oslots⟩ := ol
        simp only at hcl hdl
        subst hcl; subst hdl
        have hol' : (s.heap.push { cls := .type "set", dict := none, data := .set #[] 0 (.fresh 0 0 led) }).get? l = some { cls := .type "list", dict := odict, data := .seq items nl, slots := oslots } := Heap.get?_push_of_some _ hol
        have hsls := F.sub_list_set
        have hslf := F.sub_list_frozenset
        have hne : (Value.type "list" == Value.type "dict") = false := by decide
        have hl1 : (s.heap.push { cls := .type "set", dict := none, data := .set #[] 0 (.fresh 0 0 led) }).IsList l items := ⟨_, hol', rfl, nl, rfl⟩
        unfold Builtin.«set.__init__» noKeywords Builtin.Frozenset.updateFrom
        generalize hPI : pyIter = PI
        wp_walk
        subst hPI

        refine wpAny_pyIter_list hl1 ?_
        refine wpAny_bind (wpAny_runValue ?_)
        have hlS : l < s.heap.objs.size := Heap.lt_size hol
        have hh3 : A.in1.in1.in1.handled = none := by simp [hh]
        have hneI : l ≠ (s.heap.push { cls := .type "set", dict := none, data := .set #[] 0 (.fresh 0 0 led) }).objs.size := by
          rw [Heap.size_push]; exact Nat.ne_of_lt (Nat.lt_succ_of_lt hlS)
        have hSf : s.heap.objs.size ∉ [(s.heap.push { cls := .type "set", dict := none, data := .set #[] 0 (.fresh 0 0 led) }).objs.size, l] := by
          rw [Heap.size_push]; simp only [List.mem_cons, List.mem_singleton, List.not_mem_nil, or_false, not_or]
          exact ⟨Nat.ne_of_lt (Nat.lt_succ_self _), Nat.ne_of_gt hlS⟩
        have hval : ∀ (i : Nat) (v : Value), items[i]? = some v → ∃ t, v = .int ((fun i => ns.getD i 0) i) t := fun i v hv =>
          PyProof.Rows.IntsAre.int_at hi i v (by rw [Array.getElem?_toList]; exact hv)
        refine setR_update_loop ((Walks.list hh3 _ l hneI items).toS) s.heap.objs.size
          hSf (fun i => ns.getD i 0) hval hb (items.size - 0) 0 _ (by omega) (Nat.zero_le _)
          ⟨⟨_, Heap.get?_push_size _ rfl, rfl, rfl⟩, (hl1.push _)⟩ ?hS0 ?hR
        case hS0 =>
          have hget : ((s.heap.push { cls := .type "set", dict := none, data := .set #[] 0 (.fresh 0 0 led) }).push { cls := .type "list_iterator", data := .fields #[.ref l, .int 0 0] }).get? s.heap.objs.size
              = some { cls := .type "set", dict := none, data := .set #[] 0 (.fresh 0 0 led) } := Heap.get?_push_of_some _ hS
          subst hled
          exact setR_congr ((setR_fresh w).at fun o ho => Heap.get?_push_of_some _ ho) (fun _ => rfl) rfl
        case hR =>
          intro s' hm hS'
          obtain ⟨h', g', d', tk', os'⟩ := s'
          have eg : g' = s.gens := hm.gens
          have ed : d' = s.drawn := hm.drawn
          have eo : os' = s.os := hm.os
          subst eg; subst ed; subst eo
          show wpAny _ _ _ _ _ _
          refine wpAny_pure ?_
          show wpAny _ _ (ret Value.none) _ _ _
          refine wpAny_pure ⟨rfl, h', tk', rfl, hS', fun b o hb e => ?_⟩
          have hb1 : b ≠ s.heap.objs.size := Nat.ne_of_lt hb
          have hb2 : b ≠ (s.heap.push { cls := .type "set", dict := none, data := .set #[] 0 (.fresh 0 0 led) }).objs.size := by
            rw [Heap.size_push]; exact Nat.ne_of_lt (Nat.lt_succ_of_lt hb)
          exact hm.heap b o (by simp only [List.mem_cons, List.mem_singleton, List.not_mem_nil, or_false, not_or]; exact ⟨hb1, hb2⟩) (Heap.get?_push_of_some _ (Heap.get?_push_of_some _ e))

      · cases r₂ with
        | error e => exact hr₂
        | ok fl₂ =>
          cases fl₂ with
          | ret r =>
            obtain ⟨rfl, h', tk, rfl, hS', hk'⟩ := hr₂
            repeat (any_goals (first | assumption | wp_step))
            exact h _ _ hS' hk'
          | _ => exact hr₂.elim
    | _ => exact hr.elim
end
section
variable {X : Cx} {K : PySem.W.Frag}
/-- set(xs), xs a list of ints -/
def rSetL (w : World) (K : PySem.W.Frag) : List V → Hp → VK → Prop := fun vs H Q => ∃ (a : Addr) (ns : List Int), vs = [.ref a] ∧ SqL K H a (ns.map V.int) ∧ ns.length < 64 ∧
  ∀ (p : Addr) (n : Nat), H p = none → n ≤ ns.length → Q (.ref p) (upd H p (SetO w p (fun k => ns.any (· == k)) n))
theorem getD_range : ∀ (ns : List Int), (List.range ns.length).map (fun i => ns.getD i 0) = ns := fun ns => by
  apply List.ext_getElem?
  intro i
  rw [List.getElem?_map]
  by_cases h : i < ns.length
  · rw [List.getElem?_range h, List.getElem?_eq_getElem h]
    simp [List.getD_eq_getElem?_getD, h]
  · rw [List.getElem?_eq_none (by simpa using h), List.getElem?_eq_none (by simpa using h)]
    rfl
theorem cr_setL (hc : X.calm = true) : CallR X (.type "set") (rSetL X.w X.K) := by
  intro pins s σ H vs us Q I r h
  obtain ⟨a, ns, rfl, hs, h64, q⟩ := h
  obtain ⟨its, rv, hl, hz⟩ := I.list hs
  have hi := rv.ints
  have hlen : its.length = ns.length := hi.length
  rw [Vals.ref1 r]
  refine call_setR_list (items := its.toArray) (ns := ns) (I.ok.hd hc) hl.isList (by simpa using hi) (by rw [List.size_toArray]; unfold scanBound; omega) fun h' tk hS hk => ?_
  rw [show its.toArray.size = ns.length from by rw [List.size_toArray]; exact hlen] at hS
  have hn : H s.heap.objs.size = none := I.hok.fresh (Nat.le_refl _)
  have hS2 : SetR X.w h' s.heap.objs.size (fun k => ns.any (· == k)) (firstMet (fun i => ns.getD i 0) ns.length).length := setR_congr hS (fun k => by rw [firstMet_any, getD_range]) rfl
  exact ⟨.ref _, upd H s.heap.objs.size (SetO X.w s.heap.objs.size (fun k => ns.any (· == k)) _), I.laid (t' := tk) (fun b u e => hk b u (Heap.lt_size e) e) (Nat.le_refl _) (setO_new hS2), rfl, q _ _ hn (firstMet_length_le _ _)⟩
end

/-! ### sorted(set(..)) -/
def insU (k : Int) : List Int → List Int
  | [] => [k]
  | a :: l => if k < a then k :: a :: l else if k = a then a :: l else a :: insU k l
def ssort : List Int → List Int
  | [] => []
  | k :: l => insU k (ssort l)
theorem insU_mem (k : Int) : ∀ (l : List Int) (x : Int), x ∈ insU k l ↔ x = k ∨ x ∈ l
  | [], x => by simp [insU]
  | a :: l, x => by
    unfold insU
    by_cases h : k < a
    · rw [if_pos h]; simp
    · rw [if_neg h]
      by_cases e : k = a
      · rw [if_pos e]; simp [e]
      · rw [if_neg e, List.mem_cons, List.mem_cons, insU_mem k l x]
        constructor
        · rintro (h | h | h)
          · exact .inr (.inl h)
          · exact .inl h
          · exact .inr (.inr h)
        · rintro (h | h | h)
          · exact .inr (.inl h)
          · exact .inl h
          · exact .inr (.inr h)
theorem insU_lt (k : Int) : ∀ (l : List Int), l.Pairwise (· < ·) → (insU k l).Pairwise (· < ·)
  | [], _ => by simp [insU]
  | a :: l, h => by
    have hp := List.pairwise_cons.mp h
    unfold insU
    by_cases hk : k < a
    · rw [if_pos hk]
      refine List.pairwise_cons.mpr ⟨fun x hx => ?_, h⟩
      rcases List.mem_cons.mp hx with rfl | hx
      · exact hk
      · have := hp.1 x hx; omega
    · rw [if_neg hk]
      by_cases e : k = a
      · rw [if_pos e]; exact h
      · rw [if_neg e]
        refine List.pairwise_cons.mpr ⟨fun x hx => ?_, insU_lt k l hp.2⟩
        rcases (insU_mem k l x).mp hx with rfl | hx
        · omega
        · exact hp.1 x hx
theorem ssort_mem : ∀ (l : List Int) (x : Int), x ∈ ssort l ↔ x ∈ l
  | [], x => Iff.rfl
  | k :: l, x => by unfold ssort; rw [insU_mem, ssort_mem l x, List.mem_cons]
theorem ssort_lt : ∀ (l : List Int), (ssort l).Pairwise (· < ·)
  | [] => .nil
  | k :: l => insU_lt k _ (ssort_lt l)
theorem asc_uniq : ∀ {l m : List Int}, l.Pairwise (· < ·) → m.Pairwise (· < ·) → (∀ x, x ∈ l ↔ x ∈ m) → l = m
  | [], m, _, _, h => by
    cases m with
    | nil => rfl
    | cons b m => exact absurd ((h b).mpr (List.mem_cons_self ..)) (by simp)
  | a :: l, m, h1, h2, h => by
    cases m with
    | nil => exact absurd ((h a).mp (List.mem_cons_self ..)) (by simp)
    | cons b m =>
      have p1 := List.pairwise_cons.mp h1
      have p2 := List.pairwise_cons.mp h2
      have ab : a = b := by
        have i1 : a ≤ b := by
          rcases List.mem_cons.mp ((h b).mpr (List.mem_cons_self ..)) with e | hb
          · omega
          · have := p1.1 b hb; omega
        have i2 : b ≤ a := by
          rcases List.mem_cons.mp ((h a).mp (List.mem_cons_self ..)) with e | ha
          · omega
          · have := p2.1 a ha; omega
        omega
      subst ab
      rw [asc_uniq p1.2 p2.2 fun x => ?_]
      constructor
      · intro hx
        rcases List.mem_cons.mp ((h x).mp (List.mem_cons_of_mem _ hx)) with e | q
        · have := p1.1 x hx; omega
        · exact q
      · intro hx
        rcases List.mem_cons.mp ((h x).mpr (List.mem_cons_of_mem _ hx)) with e | q
        · have := p2.1 x hx; omega
        · exact q
def ssetL : PyData → Option (List PyData)
  | .list ds => (intsO ds).bind fun ns => if ns.length < 64 then some ((ssort ns).map .int) else none
  | _ => none
section
variable {X : Cx} {mg : Str → Option Value} {W : WX} {pos : Pos}
theorem pf_sset {e : Expr} {p1 p2 pos1 : Pos} {f : Ro → Res PyData} (hc : X.calm = true) (hg1 : Gl X "sorted") (hm1 : X.mg "sorted" = none) (hg2 : Gl X "set") (hm2 : X.mg "set" = none) (ha : PE X e (tB X.K mg W f))
    (he : starEach [e] X.env = (false, eval e X.env) :: starEach [] X.env := by rfl) (he2 : starEach [.Call (.Name "set" p2) [e] [] pos1] X.env = (false, eval (.Call (.Name "set" p2) [e] [] pos1) X.env) :: starEach [] X.env := by rfl) :
    PE X (.Call (.Name "sorted" p1) [.Call (.Name "set" p2) [e] [] pos1] [] pos) (tN X.K mg W (e1 ssetL f)) :=
  (pe_callB (cr_sortedSet hc) hg1 hm1 (by rfl) (pa_cons (pe_callTy (cr_setL hc) hg2 hm2 (by rfl) (pa_cons ha pa_nil he) (by decide) (by decide) he (by rfl)) pa_nil he2) (by decide) (by decide) he2 (by rfl)).imp fun σ H Q ⟨B, F0, F, ρ, S, p⟩ => by
    refine tE.mk S p fun d F1 H1 x _ st rx p => ?_
    obtain ⟨z, ez, q⟩ := p.ofO
    cases d with
    | list ds =>
      have ez : ((intsO ds).bind fun ns => if ns.length < 64 then some ((ssort ns).map PyData.int) else none) = some z := ez
      cases e : intsO ds with
      | none => rw [e] at ez; cases ez
      | some ns =>
        rw [e] at ez
        have ez : (if ns.length < 64 then some ((ssort ns).map PyData.int) else none) = some z := ez
        split at ez
        · rename_i h64
          cases ez
          obtain ⟨a, rfl, ha⟩ := ints_of rx e
          refine ⟨a, ns, rfl, SqL.of ha, h64, fun p n hp hn => ⟨p, _, n, rfl, upd_same, by omega, fun ns' p' ho hmem hl hp' => ?_⟩⟩
          have en : ns' = ssort ns := asc_uniq ho (ssort_lt ns) fun x => by
            rw [hmem, ssort_mem]
            simp
          subst en
          have hp1 : H1 p' = none := by
            by_cases e : p' = p
            · rw [e]; exact hp
            · rw [upd_ne e] at hp'; exact hp'
          have hpp : p' ≠ p := fun e => by rw [e, upd_same] at hp'; cases hp'
          have s2 : Stp F H F1 (upd H1 p (SetO X.w p (fun k => ns.any (· == k)) n)) := st.trans (Stp.lay hp)
          refine q F1 _ _ (s2.trans (Stp.lay hp')) ⟨p', _, rfl, st.keep.free hp1, fun z => (S.stp st).trk p' z hp1, upd_same, Rps.of_ints⟩
        · cases ez
    | _ => cases ez

/-! ### *e in displays -/
def eStar (f : Ro → Res PyData) (g : Ro → Res (List PyData)) : Ro → Res (List PyData) := fun ρ => (f ρ).bind fun d => (ofO (itL d)).bind fun xs => (g ρ).bind fun ds => .ok (xs ++ ds)
theorem pf_star {e : Expr} {es : List Expr} {p : Pos} {f : Ro → Res PyData} {g : Ro → Res (List PyData)} (h : PE X e (tB X.K mg W f)) (h2 : PA X es (tAs X.K mg W g)) (hs : starEach (.Starred e p :: es) X.env = (true, eval e X.env) :: starEach es X.env := by rfl) :
    PA X (.Starred e p :: es) (tAs X.K mg W (eStar f g)) := (StX.pa_star h h2 hs).imp fun σ H Q ⟨B, F0, F, ρ, S, p⟩ => by
  refine tE.mk S p fun d F1 H1 x _ st1 rx p => ?_
  have key : ∀ (xs : List PyData) (a : Addr) (vs : List V), itL d = some xs → x = .ref a → (SqT X.K H1 a vs ∨ SqL X.K H1 a vs) → Rps X.K F1 H1 vs xs →
      ∃ p xs, x = V.ref p ∧ (SqT X.K H1 p xs ∨ SqL X.K H1 p xs) ∧ tAs X.K mg W g σ H1 fun ys H2 => Q (xs ++ ys) H2 := fun xs a vs ei ev hq hr => by
    rw [ei] at p
    refine ⟨a, vs, ev, hq, tAs.mk (P := fun ds => ∀ F' H' vs, Stp F H F' H' → Rps X.K F' H' vs ds → Q vs H') (S.stp st1) (p.mono st1.keep) fun ds F2 H2 ys _ st2 rys q => ?_⟩
    exact q F2 H2 (vs ++ ys) (st1.trans st2) ((hr.stp st2).append rys)
  cases d with
  | list ds =>
    obtain ⟨a, vs, ev, ha, r⟩ := rx.list
    exact key ds a vs rfl ev (.inr (SqL.of ha)) r
  | tuple ds =>
    obtain ⟨a, vs, ev, ha, r⟩ := rx.tuple
    exact key ds a vs rfl ev (.inl ha) r
  | _ => exact p.elim
def lenOk (ds : List PyData) : Option (List PyData) := if ds.length ≤ 16777216 then some ds else none
theorem pf_lstV {K : PySem.W.Frag} {es : List Expr} {g : Ro → Res (List PyData)} (h : PA X es (tAs K mg W g)) : PE X (.List es pos) (tN K mg W (e1 lenOk g)) :=
  (pe_lst h).imp fun σ H Q ⟨B, F0, F, ρ, S, p⟩ => by
    refine tAs.mk S p fun ds F1 H1 xs e st rxs p => ?_
    obtain ⟨z, ez, q⟩ := p.ofO
    unfold lenOk at ez
    split at ez
    · rename_i hl
      cases ez
      refine ⟨by rw [rxs.length, sizeLine_eq]; exact hl, fun a ha => ?_⟩
      have hn : H a = none := st.keep.free ha
      exact q F1 _ _ (st.trans (Stp.lay ha)) ⟨a, xs, rfl, hn, fun z => (S.stp st).trk a z ha, upd_same, rxs.stp (Stp.lay ha)⟩
    · cases ez
def tupOk (ds : List PyData) : Option PyData := if ds.length ≤ 16777216 then some (.tuple ds) else none

/-! ### several names at once, some of them lists of one's own -/
inductive Ent where
  | val (d : PyData)
  | own (ds : List PyData)
def Ent.sl : Ent → Sl
  | .val d => .val d
  | .own ds => .own ds
inductive REs (K : PySem.W.Frag) (F : Rg) (H : Hp) : List V → List Ent → Prop
  | nil : REs K F H [] []
  | val {v : V} {d : PyData} {vs : List V} {es : List Ent} : Rp K F H v d → REs K F H vs es → REs K F H (v :: vs) (.val d :: es)
  | own {a : Addr} {xs : List V} {ds : List PyData} {vs : List V} {es : List Ent} : ¬ F a → H a = some (.lst xs) → Rps K F H xs ds → (∀ (i : Nat) (es' : List PyData), es[i]? = some (.own es') → vs[i]? ≠ some (.ref a)) → REs K F H vs es → REs K F H (.ref a :: vs) (.own ds :: es)
/-- a list in es is new since H0 -/
def NewEs (H0 : Hp) (vs : List V) (es : List Ent) : Prop := ∀ (i : Nat) (ds : List PyData) (a : Addr), es[i]? = some (.own ds) → vs[i]? = some (.ref a) → H0 a = none
def setA (σ : L2.St) : List Nat → List V → L2.St
  | i :: is, v :: vs => setA (σ.set i (some v)) is vs
  | _, _ => σ
def setE (ρ : Ro) : List Nat → List Ent → Ro
  | i :: is, e :: es => setE (ρ.set i e.sl) is es
  | _, _ => ρ
theorem Ste.sets {K : PySem.W.Frag} {B : Hp} {F0 F : Rg} {H : Hp} : ∀ (is : List Nat) {vs : List V} {es : List Ent} {σ : L2.St} {ρ : Ro}, Ste K B F0 F H σ ρ → REs K F H vs es → NewEs B vs es →
    (∀ (i j : Nat) (ds es' : List PyData) (a : Addr), es[i]? = some (.own ds) → vs[i]? = some (.ref a) → ρ[j]? = some (.own es') → σ[j]? ≠ some (some (.ref a))) → Ste K B F0 F H (setA σ is vs) (setE ρ is es)
  | [], vs, es, σ, ρ, S, r, hB, hn => by
    cases vs <;> cases es <;> exact S
  | i :: is, _, _, σ, ρ, S, .nil, hB, hn => S
  | i :: is, _, _, σ, ρ, S, .val (v := v) (d := d) (vs := vs) (es := es) a b, hB, hn => by
    refine Ste.sets is (S.set_val (i := i) a) b (fun k ds c h1 h2 => hB (k + 1) ds c h1 h2) fun k j ds es' c h1 h2 h3 h4 => ?_
    rcases getset_some h3 with ⟨rfl, q, hl⟩ | ⟨hne, h3⟩
    · cases q
    · rw [getset_ne hne] at h4
      exact hn (k + 1) j ds es' c h1 h2 h3 h4
  | i :: is, _, _, σ, ρ, S, .own (a := a) (xs := xs) (ds := ds) (vs := vs) (es := es) nf ha r hd b, hB, hn => by
    refine Ste.sets is (S.set_own (i := i) nf (hB 0 ds a rfl rfl) ha r fun j es' _ h1 => hn 0 j ds es' a rfl rfl h1) b (fun k ds c h1 h2 => hB (k + 1) ds c h1 h2) fun k j ds2 es' c h1 h2 h3 h4 => ?_
    rcases getset_some h3 with ⟨rfl, q, hl⟩ | ⟨hne, h3⟩
    · rw [List.getElem?_set_self (by rw [S.len]; exact hl)] at h4
      cases h4
      exact hd k ds2 h1 h2
    · rw [getset_ne hne] at h4
      exact hn (k + 1) j ds2 es' c h1 h2 h3 h4
theorem REs.stp {K : PySem.W.Frag} {F F' : Rg} {H H' : Hp} {vs : List V} {es : List Ent} (s : Stp F H F' H') (h : REs K F H vs es) : REs K F' H' vs es := by
  induction h with
  | nil => exact .nil
  | val a _ ih => exact .val (a.stp s) ih
  | own nf ha r hd _ ih => exact .own (fun z => (s.new _ z).elim nf fun z => by have := z.1; rw [ha] at this; cases this) (s.keep _ _ ha) (r.stp s) hd ih
def tEs (K : PySem.W.Frag) (mg : Str → Option Value) (W : WX) (f : Ro → Res (List Ent)) : TA := fun σ H Q =>
  ∃ (B : Hp) (F0 F : Rg) (ρ : Ro), Ste K B F0 F H σ ρ ∧ PostE mg W σ H (fun es => ∀ F' H' vs, Stp F H F' H' → REs K F' H' vs es → NewEs H vs es → Q vs H') (f ρ)
def mNil : Ro → Res (List Ent) := fun _ => .ok []
def mVal (f : Ro → Res PyData) (g : Ro → Res (List Ent)) : Ro → Res (List Ent) := fun ρ => (f ρ).bind fun d => (g ρ).bind fun es => .ok (.val d :: es)
def mOwn (f : Ro → Res (List PyData)) (g : Ro → Res (List Ent)) : Ro → Res (List Ent) := fun ρ => (f ρ).bind fun d => (g ρ).bind fun es => .ok (.own d :: es)
variable {K : PySem.W.Frag}
theorem tEs.mk {β : Type} {σ : L2.St} {H : Hp} {B : Hp} {F0 F : Rg} {ρ : Ro} {f : Ro → Res (List Ent)} {r : List Ent → Res β} {P : β → Prop} {Q : List V → Hp → Prop} (S : Ste K B F0 F H σ ρ) (p : PostE mg W σ H P ((f ρ).bind r))
    (h : ∀ a F' H' vs, f ρ = .ok a → Stp F H F' H' → REs K F' H' vs a → NewEs H vs a → PostE mg W σ H P (r a) → Q vs H') : tEs K mg W f σ H Q := by
  refine ⟨B, F0, F, ρ, S, ?_⟩
  cases e : f ρ with
  | ok a => rw [e] at p; exact fun F' H' v s r n => h a F' H' v e s r n p
  | exc c k => rw [e] at p; exact p
  | bad => rw [e] at p; exact p
theorem pf_mnil : PA X [] (tEs K mg W mNil) := pa_nil.imp fun σ H Q ⟨B, F0, F, ρ, S, p⟩ => p F H [] Stp.refl .nil fun i ds a h => by simp at h
theorem pf_mval {e : Expr} {es : List Expr} {f : Ro → Res PyData} {g : Ro → Res (List Ent)} (h : PE X e (tF K mg W f)) (h2 : PA X es (tEs K mg W g)) (hs : starEach (e :: es) X.env = (false, eval e X.env) :: starEach es X.env := by rfl) :
    PA X (e :: es) (tEs K mg W (mVal f g)) := (pa_cons h h2 hs).imp fun σ H Q ⟨B, F0, F, ρ, S, p⟩ => by
  refine tE.mk S p fun d F1 H1 x _ st1 rx p => ?_
  refine tEs.mk (S.stp st1) (p.mono st1.keep) fun ds F2 H2 xs _ st2 rxs hn q => ?_
  refine q F2 H2 (x :: xs) (st1.trans st2) (.val (rx.stp st2) rxs) fun i ds a h1 h2 => ?_
  cases i with
  | zero => cases h1
  | succ i => exact st1.keep.free (hn i ds a h1 h2)
theorem pf_mown {e : Expr} {es : List Expr} {f : Ro → Res (List PyData)} {g : Ro → Res (List Ent)} (h : PE X e (tN K mg W f)) (h2 : PA X es (tEs K mg W g)) (hs : starEach (e :: es) X.env = (false, eval e X.env) :: starEach es X.env := by rfl) :
    PA X (e :: es) (tEs K mg W (mOwn f g)) := (pa_cons h h2 hs).imp fun σ H Q ⟨B, F0, F, ρ, S, p⟩ => by
  refine tE.mk S p fun d F1 H1 x _ st1 rx p => ?_
  obtain ⟨a, ys, rfl, hn0, nf, ha, r⟩ := rx
  refine tEs.mk (S.stp st1) (p.mono st1.keep) fun ds F2 H2 xs _ st2 rxs hn q => ?_
  refine q F2 H2 (.ref a :: xs) (st1.trans st2) (.own (fun z => (st2.new _ z).elim nf fun z => by have := z.1; rw [ha] at this; cases this) (st2.keep _ _ ha) (r.stp st2) (fun i es' h1 h2 => by have := hn i es' a h1 h2; rw [ha] at this; cases this) rxs) fun i ds' b h1 h2 => ?_
  cases i with
  | zero => cases h1; cases h2; exact hn0
  | succ i => exact st1.keep.free (hn i ds' b h1 h2)
def sParM (is : List Nat) (fs : Ro → Res (List Ent)) : Ro → Out := fun ρ => (fs ρ).out fun es => if es.length = is.length then .nx (setE ρ is es) else .bad
theorem REs.len {F : Rg} {H : Hp} {vs : List V} {es : List Ent} (h : REs K F H vs es) : vs.length = es.length := by
  induction h with
  | nil => rfl
  | val _ _ ih => simp [ih]
  | own _ _ _ _ _ ih => simp [ih]
theorem sets_of {B : Hp} {F0 F F' : Rg} {H H' : Hp} {σ : L2.St} {ρ : Ro} {is : List Nat} {vs : List V} {es : List Ent} (S : Ste K B F0 F H σ ρ) (st : Stp F H F' H') (r : REs K F' H' vs es) (hn : NewEs H vs es) : Ste K B F0 F' H' (setA σ is vs) (setE ρ is es) :=
  Ste.sets is (S.stp st) r (fun i ds a h1 h2 => S.same.free (hn i ds a h1 h2)) fun i j ds es' a h1 h2 h3 h4 => by
    obtain ⟨b, ys, g1, _, _, g4, _⟩ := S.own j es' h3
    rw [g1] at h4
    cases h4
    rw [hn i ds a h1 h2] at g4
    cases g4
theorem pq_parM {i j : Nat} {x y : Str} {a b : Expr} {fs : Ro → Res (List Ent)} {px py pt : Pos} {kt k2 pt2} (hc : X.calm = true) (hN : X.N.Nodup) (hi : X.N[i]? = some x) (hj : X.N[j]? = some y) (hij : i ≠ j)
    (hx : X.env.scope.names.lookup x = some .local) (hy : X.env.scope.names.lookup y = some .local) (ha : PA X [a, b] (tEs K mg W fs))
    (hw : swappedStores [.Tuple [.Name x px, .Name y py] kt pt] (.Tuple [a, b] k2 pt2) X.env = pure (some [x, y]) := by rfl)
    (hs : swapsWithSole [.Tuple [.Name x px, .Name y py] kt pt] (.Tuple [a, b] k2 pt2) pos.line X.env = pure false := by rfl) :
    PS X (.Assign [.Tuple [.Name x px, .Name y py] kt pt] (.Tuple [a, b] k2 pt2) pos) (tS K mg W (sParM [i, j] fs)) := (ps_par hc hN hi hj hij hx hy ha hw hs).imp fun D σ H ⟨B, F0, F, ρ, S, p⟩ => by
  refine ⟨B, F0, F, ρ, S, PostE.of_out S p fun es _ q F' H' vs st r hn => ?_⟩
  split at q
  · rename_i hl
    have hl2 := r.len
    rw [hl] at hl2
    match vs, hl2 with
    | [v, w], _ => exact ⟨v, w, rfl, q _ F' H' (sets_of (is := [i, j]) S st r hn) st.fk⟩
  · exact q.elim
theorem pq_parM3 {i j l : Nat} {x y z : Str} {a b c : Expr} {fs : Ro → Res (List Ent)} {px py pz pt : Pos} {kt k2 pt2} (hc : X.calm = true) (hN : X.N.Nodup) (hi : X.N[i]? = some x) (hj : X.N[j]? = some y) (hl : X.N[l]? = some z) (hij : i ≠ j) (hil : i ≠ l) (hjl : j ≠ l)
    (hx : X.env.scope.names.lookup x = some .local) (hy : X.env.scope.names.lookup y = some .local) (hz : X.env.scope.names.lookup z = some .local) (ha : PA X [a, b, c] (tEs K mg W fs))
    (hw : swappedStores [.Tuple [.Name x px, .Name y py, .Name z pz] kt pt] (.Tuple [a, b, c] k2 pt2) X.env = pure (some [x, y, z]) := by rfl)
    (hs : swapsWithSole [.Tuple [.Name x px, .Name y py, .Name z pz] kt pt] (.Tuple [a, b, c] k2 pt2) pos.line X.env = pure false := by rfl) :
    PS X (.Assign [.Tuple [.Name x px, .Name y py, .Name z pz] kt pt] (.Tuple [a, b, c] k2 pt2) pos) (tS K mg W (sParM [i, j, l] fs)) := (ps_par3 hc hN hi hj hl hij hil hjl hx hy hz ha hw hs).imp fun D σ H ⟨B, F0, F, ρ, S, p⟩ => by
  refine ⟨B, F0, F, ρ, S, PostE.of_out S p fun es _ q F' H' vs st r hn => ?_⟩
  split at q
  · rename_i hl
    have hl2 := r.len
    rw [hl] at hl2
    match vs, hl2 with
    | [u, v, w], _ => exact ⟨u, v, w, rfl, q _ F' H' (sets_of (is := [i, j, l]) S st r hn) st.fk⟩
  · exact q.elim
end
end Pf
/-! Pf10: comprehensions of two fors. -/
namespace Pf
open PySem PySem.Spec PyProof.Rows L2

/-- the rows of an inner turn -/
def compF2 (g : PyData → Ro → Option Ro) (c : Ro → Res Bool) (fi1 : Ro → Res (List PyData)) (own1 : List Nat) (g1 : PyData → Ro → Option Ro) (c1 : Ro → Res Bool) (f : Ro → Res PyData) (ρ : Ro) : List PyData → Option (List PyData)
  | [] => some []
  | d :: ds => (g d ρ).bind fun ρ1 => (c ρ1).opt.bind fun b => if b = true then (fi1 ρ1).opt.bind fun es => (compF g1 c1 f (wipeR ρ1 own1) es).bind fun ys => (compF2 g c fi1 own1 g1 c1 f ρ ds).map (ys ++ ·) else compF2 g c fi1 own1 g1 c1 f ρ ds
def eComp2 (own : List Nat) (fi : Ro → Res (List PyData)) (g : PyData → Ro → Option Ro) (c : Ro → Res Bool) (fi1 : Ro → Res (List PyData)) (own1 : List Nat) (g1 : PyData → Ro → Option Ro) (c1 : Ro → Res Bool) (f : Ro → Res PyData) : Ro → Res (List PyData) := fun ρ =>
  (fi ρ).bind fun ds => ofO ((compF2 g c fi1 own1 g1 c1 f (wipeR ρ own) ds).bind lenOk)
theorem wipe_idem (σ : L2.St) (own : List Nat) : L2.wipe (L2.wipe σ own) own = L2.wipe σ own := by
  have idem : ∀ (vs ws : List Nat), (∀ v ∈ vs, v ∈ ws) → L2.wipe (L2.wipe σ ws) vs = L2.wipe σ ws := by
    intro vs
    induction vs with
    | nil => intro ws _; rfl
    | cons v vs ih =>
      intro ws hv
      show (L2.wipe (L2.wipe σ ws) vs).set v none = L2.wipe σ ws
      rw [ih ws fun u hu => hv u (List.mem_cons_of_mem _ hu)]
      have hvw := hv v (List.mem_cons_self ..)
      have key : ∀ ws : List Nat, v ∈ ws → (L2.wipe σ ws).set v none = L2.wipe σ ws := by
        intro ws
        induction ws with
        | nil => intro h; cases h
        | cons w ws ih2 =>
          intro h
          unfold L2.wipe
          by_cases e : v = w
          · subst e; rw [List.set_set]
          · rw [List.set_comm _ _ (Ne.symm e)]
            rcases List.mem_cons.mp h with e2 | h2
            · exact absurd e2 e
            · rw [ih2 h2]
      exact key ws hvw
  exact idem own own fun _ h => h
section
variable {X : Cx} {K : PySem.W.Frag} {mg : Str → Option Value} {W : WX} {pos : Pos}
theorem compF_len {g : PyData → Ro → Option Ro} {c : Ro → Res Bool} {f : Ro → Res PyData} {ρ : Ro} : ∀ {ds zs : List PyData}, compF g c f ρ ds = some zs → zs.length ≤ ds.length
  | [], zs, h => by cases h; exact Nat.le_refl _
  | d :: ds, zs, h => by
    unfold compF at h
    obtain ⟨ρ1, e1, h⟩ := Option.bind_eq_some_iff.mp h
    obtain ⟨b, e2, h⟩ := Option.bind_eq_some_iff.mp h
    split at h
    · obtain ⟨y, e3, h⟩ := Option.bind_eq_some_iff.mp h
      obtain ⟨zs', e4, rfl⟩ := Option.map_eq_some_iff.mp h
      have := compF_len e4
      simp
      omega
    · have := compF_len h
      simp
      omega
theorem Ste.poke {B : Hp} {F0 F : Rg} {H : Hp} {σ : L2.St} {ρ : Ro} {D : Addr} {o : HO} (S : Ste K B F0 F H σ ρ) (nF : ¬ F D) (nB : B D = none) (nD : ∀ (j : Nat) (es : List PyData), ρ[j]? = some (.own es) → σ[j]? ≠ some (some (.ref D))) : Ste K B F0 F (upd H D o) σ ρ := by
  have ne : ∀ {b : Addr}, F b → b ≠ D := fun {b} hb z => nF (z ▸ hb)
  have fk : FK F H F (upd H D o) := ⟨fun _ h => h, fun b hb o' e => by rw [upd_ne (ne hb)]; exact e⟩
  refine ⟨fun b o' q => ?_, S.reg, S.sub, fun b hb => by rw [upd_ne (ne hb)]; exact S.trk b hb, S.len, fun j d h => ?_, fun j es h => ?_, S.sep⟩
  · have : b ≠ D := fun z => by rw [z, nB] at q; cases q
    rw [upd_ne this]; exact S.same b o' q
  · obtain ⟨w, g1, g2⟩ := S.val j d h
    exact ⟨w, g1, g2.fk fk⟩
  · obtain ⟨b, zs, g1, g2, g3, g4, g5⟩ := S.own j es h
    have hb : b ≠ D := fun z => by rw [z] at g1; exact nD j es h g1
    exact ⟨b, zs, g1, g2, g3, by rw [upd_ne hb]; exact g4, g5.fk fk⟩
theorem Stp.poke {F1 F : Rg} {H1 H : Hp} {D : Addr} {o : HO} (s : Stp F1 H1 F H) (hD : H1 D = none) : Stp F1 H1 F (upd H D o) :=
  ⟨s.sub, fun b o' e => by rw [upd_ne (ne_of_none e hD)]; exact s.keep b o' e, fun b hb => (s.new b hb).imp id fun z => ⟨z.1, by
    by_cases e : b = D
    · rw [e, upd_same]; simp
    · rw [upd_ne e]; exact z.2⟩⟩
theorem FK.poke {F1 F : Rg} {H1 H : Hp} {D : Addr} {o : HO} (s : FK F1 H1 F H) (nF : ¬ F D) : FK F1 H1 F (upd H D o) :=
  ⟨s.sub, fun b hb o' e => by rw [upd_ne (show b ≠ D from fun z => nF (by rw [← z]; exact s.sub b hb))]; exact s.keep b hb o' e⟩
theorem tLc2_of {fi fi1 : Ro → Res (List PyData)} {g g1 : PyData → Ro → Option Ro} {c c1 : Ro → Res Bool} {f : Ro → Res PyData} {own own1 is is1 : List Nat} (his : ∀ i ∈ is, i ∈ own) (his1 : ∀ i ∈ is1, i ∈ own1) {σ : L2.St} {H : Hp} {Q : VK} (h : tN K mg W (eComp2 own fi g c fi1 own1 g1 c1 f) σ H Q) :
    tLc2 (tI K mg W true fi) (tTg K is g) (tTs K mg W0 c) (tI K mg W0 false fi1) (tTg K is1 g1) (tTs K mg W0 c1) (tF K mg W0 f) own own1 σ H Q := by
  obtain ⟨B, F0, F, ρ, S, p⟩ := h
  refine ⟨B, F0, F, ρ, S, ?_⟩
  unfold eComp2 at p
  cases ei : fi ρ with
  | exc c k => rw [ei] at p; exact p
  | bad => rw [ei] at p; exact p
  | ok ds =>
    rw [ei] at p
    obtain ⟨zs, ez, q⟩ := PostE.ofO (r := (compF2 g c fi1 own1 g1 c1 f (wipeR ρ own) ds).bind lenOk) p
    obtain ⟨zs', ez, ez2⟩ := Option.bind_eq_some_iff.mp ez
    unfold lenOk at ez2
    split at ez2
    case isFalse => cases ez2
    rename_i hlz
    cases ez2
    intro J F1 H1 st G D hD
    -- the word at the outer turn i
    let Wd : Nat → Hp → Prop := fun i H2 => ∃ (F2 : Rg) (acc : List V) (done : List PyData) (rest : List PyData), Stp F1 H1 F2 H2 ∧ ¬ F2 D ∧ H2 D = some (.lst acc) ∧ Rps K F2 H2 acc done ∧
      compF2 g c fi1 own1 g1 c1 f (wipeR ρ own) (ds.drop i) = some rest ∧ zs = done ++ rest
    refine ⟨fun i m H2 => m = ds.length - i ∧ i ≤ ds.length ∧ Wd i H2, ⟨ds.length, by simp, Nat.zero_le _, F1, [], [], zs, Stp.lay hD, fun z => (S.stp st).trk D z hD, upd_same, .nil, by simpa using ez, rfl⟩, ?_⟩
    rintro i m H2 ⟨rfl, hi, F2, acc, done, rest, s2, nF, hDl, ra, hrest, hz⟩
    have kp : Kept true F1 H1 F2 H2 := ⟨s2.sub, fun a _ o e => s2.keep a o e⟩
    by_cases hlt : i < ds.length
    · obtain ⟨g1', g2⟩ := G.go i ds[i] F2 H2 (by simp [hlt]) kp
      refine .inr ⟨g1', Wd (i + 1), fun H' hh => ⟨ds.length - (i + 1), by omega, rfl, hlt, hh⟩, fun x H3 y => ?_⟩
      obtain ⟨F3, st3, rx⟩ := g2 x H3 y
      have S3 : Ste K B F0 F3 H3 (L2.wipe σ own) (wipeR ρ own) := ((S.stp (st.trans (s2.trans st3))).wipe own)
      rw [List.drop_eq_getElem_cons hlt] at hrest
      unfold compF2 at hrest
      obtain ⟨ρ1, e1, hrest⟩ := Option.bind_eq_some_iff.mp hrest
      -- the base with D told: no own slot is at D
      have nBD : B D = none := S.same.free (st.keep.free hD)
      have hD3 : H3 D = some (.lst acc) := st3.keep _ _ hDl
      have nF3 : ¬ F3 D := fun z => (st3.new D z).elim nF fun z => by have := z.1; rw [hDl] at this; cases this
      have S3' : Ste K (upd B D (.lst acc)) F0 F3 H3 (L2.wipe σ own) (wipeR ρ own) := by
        refine ⟨fun b o q => ?_, fun a ha => (S3.reg a ha).imp id fun z => ?_, S3.sub, S3.trk, S3.len, S3.val, fun j es h => ?_, S3.sep⟩
        · by_cases e : b = D
          · rw [e, upd_same] at q; cases q; rw [e]; exact hD3
          · rw [upd_ne e] at q; exact S3.same b o q
        · rw [upd_ne (show a ≠ D from fun e => nF3 (by rw [← e]; exact ha))]; exact z
        · obtain ⟨a, xs, h1, h2, h3, h4, h5⟩ := S3.own j es h
          obtain ⟨a2, xs2, k1, k2, k3, k4, k5⟩ := (S.wipe own).own j es h
          rw [h1] at k1
          cases k1
          refine ⟨a, xs, h1, h2, ?_, h4, h5⟩
          rw [upd_ne (fun e => by rw [e, st.keep.free hD] at k4; cases k4)]
          exact h3
      refine ⟨upd B D (.lst acc), F0, F3, wipeR ρ own, ds[i], S3', rx, ρ1, e1, fun σ2 S4' w => ⟨?_, ?_⟩⟩
      · rw [w own his]; exact wipe_idem σ own
      have nD : ∀ (j : Nat) (es : List PyData), ρ1[j]? = some (.own es) → σ2[j]? ≠ some (some (.ref D)) := fun j es h z => by
        obtain ⟨a, xs, h1, h2, h3, h4, h5⟩ := S4'.own j es h
        rw [z] at h1
        cases h1
        rw [upd_same] at h3
        cases h3
      have S4 : Ste K B F0 F3 H3 σ2 ρ1 := by
        refine ⟨S3.same, S3.reg, S4'.sub, S4'.trk, S4'.len, S4'.val, fun j es h => ?_, S4'.sep⟩
        obtain ⟨a, xs, h1, h2, h3, h4, h5⟩ := S4'.own j es h
        refine ⟨a, xs, h1, h2, ?_, h4, h5⟩
        rw [upd_ne (fun e => by rw [e, upd_same] at h3; cases h3)] at h3
        exact h3
      · obtain ⟨b, eb, hrest⟩ := Option.bind_eq_some_iff.mp hrest
        refine ⟨B, F0, F3, ρ1, S4, ?_⟩
        rw [opt_some eb]
        intro F4 H4 st4
        have s24 := st3.trans st4
        have nF4 : ¬ F4 D := fun z => (s24.new D z).elim nF fun z => by have := z.1; rw [hDl] at this; cases this
        cases b with
        | false =>
          rw [if_neg (by decide)] at hrest ⊢
          exact ⟨F4, acc, done, rest, s2.trans s24, nF4, s24.keep _ _ hDl, ra.stp s24, hrest, hz⟩
        | true =>
          rw [if_pos rfl] at hrest ⊢
          obtain ⟨es, ees, hrest⟩ := Option.bind_eq_some_iff.mp hrest
          obtain ⟨ys, eys, hrest⟩ := Option.bind_eq_some_iff.mp hrest
          refine ⟨B, F0, F4, ρ1, S4.stp st4, ?_⟩
          rw [opt_some ees]
          intro J1 F5 H5 st5 G1
          obtain ⟨rest2, er2, erest⟩ := Option.map_eq_some_iff.mp hrest
          have s25 := s24.trans st5
          have hD5 : H5 D = some (.lst acc) := s25.keep _ _ hDl
          have nF5 : ¬ F5 D := fun z => (s25.new D z).elim nF fun z => by have := z.1; rw [hDl] at this; cases this
          have S5 := (S4.stp st4).stp st5
          have s15 := s2.trans s25
          -- the word at the inner turn j
          let Wd1 : Nat → Hp → Prop := fun j H6 => ∃ (F6 : Rg) (acc1 : List V) (done1 : List PyData) (r1 : List PyData), Stp F1 H1 F6 H6 ∧ FK F5 H5 F6 H6 ∧ Ste K B F0 F6 H6 σ2 ρ1 ∧ ¬ F6 D ∧ H6 D = some (.lst acc1) ∧ Rps K F6 H6 acc1 done1 ∧
            compF g1 c1 f (wipeR ρ1 own1) (es.drop j) = some r1 ∧ done ++ ys = done1 ++ r1
          refine ⟨fun j m H6 => m = es.length - j ∧ j ≤ es.length ∧ Wd1 j H6, ⟨es.length, by simp, Nat.zero_le _, F5, acc, done, ys, s15, FK.refl, S5, nF5, hD5, ra.stp s25, by simpa using eys, rfl⟩, ?_⟩
          rintro j m H6 ⟨rfl, hj, F6, acc1, done1, r1, s6, k6, S6, nF6, hD6, ra6, hr1, hz1⟩
          have kp1 : Kept false F5 H5 F6 H6 := ⟨k6.sub, fun a h o e => k6.keep a (h.elim (fun z => nomatch z) id) o e⟩
          by_cases hlt1 : j < es.length
          · obtain ⟨q1, q2⟩ := G1.go j es[j] F6 H6 (by simp [hlt1]) kp1
            refine .inr ⟨q1, Wd1 (j + 1), fun H' hh => ⟨es.length - (j + 1), by omega, rfl, hlt1, hh⟩, fun x1 H7 y1 => ?_⟩
            obtain ⟨F7, st7, rx1⟩ := q2 x1 H7 y1
            have S7 := (S6.stp st7).wipe own1
            rw [List.drop_eq_getElem_cons hlt1] at hr1
            unfold compF at hr1
            obtain ⟨ρ2, e2, hr1⟩ := Option.bind_eq_some_iff.mp hr1
            refine ⟨B, F0, F7, wipeR ρ1 own1, es[j], S7, rx1, ρ2, e2, fun σ3 S8 w1 => ⟨?_, ?_⟩⟩
            · rw [w1 own1 his1]; exact wipe_idem σ2 own1
            obtain ⟨b1, eb1, hr1⟩ := Option.bind_eq_some_iff.mp hr1
            refine ⟨B, F0, F7, ρ2, S8, ?_⟩
            rw [opt_some eb1]
            intro F8 H8 st8
            have s78 := st7.trans st8
            have nF8 : ¬ F8 D := fun z => (s78.new D z).elim nF6 fun z => by have := z.1; rw [hD6] at this; cases this
            cases b1 with
            | false =>
              rw [if_neg (by decide)] at hr1 ⊢
              exact ⟨F8, acc1, done1, r1, s6.trans s78, k6.trans s78.fk, S6.stp s78, nF8, s78.keep _ _ hD6, ra6.stp s78, hr1, hz1⟩
            | true =>
              rw [if_pos rfl] at hr1 ⊢
              obtain ⟨y, ey, hr1⟩ := Option.bind_eq_some_iff.mp hr1
              obtain ⟨r2, er2', rfl⟩ := Option.map_eq_some_iff.mp hr1
              refine ⟨B, F0, F8, ρ2, S8.stp st8, ?_⟩
              rw [opt_some ey]
              intro F9 H9 v st9 ry
              have s79 := s78.trans st9
              have hD9 : H9 D = some (.lst acc1) := s79.keep _ _ hD6
              have nF9 : ¬ F9 D := fun z => (s79.new D z).elim nF6 fun z => by have := z.1; rw [hD6] at this; cases this
              refine ⟨acc1, hD9, ?_, ?_⟩
              · rw [ra6.length, sizeLine_eq]
                have h1 : zs.length = (done ++ ys).length + rest2.length := by rw [hz, ← erest, ← List.append_assoc, List.length_append]
                rw [hz1, List.length_append, List.length_cons] at h1
                omega
              · exact ⟨F9, acc1 ++ [v], done1 ++ [y], r2, (s6.trans s79).poke hD, (k6.trans s79.fk).poke nF9, (S6.stp s79).poke nF9 nBD nD, nF9, upd_same, ((ra6.stp s79).append (.cons ry .nil)).fk (FK.refl.poke nF9), er2', by rw [hz1]; simp⟩
          · have e : j = es.length := by omega
            subst e
            refine .inl ⟨G1.stop F6 H6 kp1, ?_⟩
            rw [List.drop_length] at hr1
            cases hr1
            rw [List.append_nil] at hz1
            exact ⟨F6, acc1, done1, rest2, s6, nF6, hD6, ra6, er2, by rw [hz, ← erest, ← hz1]; simp⟩
    · have e : i = ds.length := by omega
      subst e
      refine .inl ⟨G.stop F2 H2 kp, ?_⟩
      rw [List.drop_length] at hrest
      cases hrest
      rw [List.append_nil] at hz
      subst hz
      exact q F2 H2 _ (st.trans s2) ⟨D, acc, rfl, st.keep.free hD, nF, hDl, ra⟩
/-- [e for x in .. for y in ..] -/
theorem pf_lc2 {elt tg iter tg1 iter1 : Expr} {ifs ifs1 : List Expr} {scope : Scope} {own : List (Str × Nat)} {own1 is is1 : List Nat} {fi fi1 : Ro → Res (List PyData)} {g g1 : PyData → Ro → Option Ro} {c c1 : Ro → Res Bool} {f : Ro → Res PyData} (hc : X.calm = true) (hN : X.N.Nodup) (hi : PI X tg iter (tI K mg W true fi)) (ok : BlkOk X.N X.env.scope scope own) (hv : ∀ i ∈ own1, i ∈ own.map (·.2) := by decide)
    (hg : ∀ (s : Shared) (H : Hp) (C : Addr) (cl : List (Str × Addr)) (fp : List Addr), PG (X.blk s H scope (compEnvC scope cl C X.env) fp) tg (tTg K is g)) (ht : ∀ (s : Shared) (H : Hp) (C : Addr) (cl : List (Str × Addr)) (fp : List Addr), PTs (X.blk s H scope (compEnvC scope cl C X.env) fp) ifs (tTs K mg W0 c))
    (hi1 : ∀ (s : Shared) (H : Hp) (C : Addr) (cl : List (Str × Addr)) (fp : List Addr), PI (X.blk s H scope (compEnvC scope cl C X.env) fp) tg1 iter1 (tI K mg W0 false fi1))
    (hg1 : ∀ (s : Shared) (H : Hp) (C : Addr) (cl : List (Str × Addr)) (fp : List Addr), PG (X.blk s H scope (compEnvC scope cl C X.env) fp) tg1 (tTg K is1 g1)) (ht1 : ∀ (s : Shared) (H : Hp) (C : Addr) (cl : List (Str × Addr)) (fp : List Addr), PTs (X.blk s H scope (compEnvC scope cl C X.env) fp) ifs1 (tTs K mg W0 c1))
    (he : ∀ (s : Shared) (H : Hp) (C : Addr) (cl : List (Str × Addr)) (fp : List Addr), PE (X.blk s H scope (compEnvC scope cl C X.env) fp) elt (tF K mg W0 f)) (his : ∀ i ∈ is, i ∈ own.map (·.2) := by decide) (his1 : ∀ i ∈ is1, i ∈ own1 := by decide) (hs : ∀ x, foldedSetIterable iter X.env x = pure x := by intro _; rfl) (hs1 : ∀ env x, foldedSetIterable iter1 env x = pure x := by intro _ _; rfl) :
    PE X (.ListComp elt [⟨tg, iter, ifs, 0⟩, ⟨tg1, iter1, ifs1, 0⟩] scope pos) (tN K mg W (eComp2 (own.map (·.2)) fi g c fi1 own1 g1 c1 f)) := (pe_lc2 hc hN hi ok hv hg ht hi1 hg1 ht1 he hs hs1).imp fun _ _ _ h => tLc2_of his his1 h
/-- y = [e for x in .. for y in ..] on one line, the name a local -/
theorem pq_setLc2 {own : Bool} {i : Nat} {y : Str} {py : Pos} {elt tg iter tg1 iter1 : Expr} {ifs ifs1 : List Expr} {scope : Scope} {ow : List (Str × Nat)} {own1 is is1 : List Nat} {spos : Pos} {fi fi1 : Ro → Res (List PyData)} {g g1 : PyData → Ro → Option Ro} {c c1 : Ro → Res Bool} {f : Ro → Res PyData} (hc : X.calm = true) (hN : X.N.Nodup) (hy : X.N[i]? = some y) (hyl : X.env.scope.names.lookup y = some .local)
    (hsw : swapsWith (.ListComp elt [⟨tg, iter, ifs, 0⟩, ⟨tg1, iter1, ifs1, 0⟩] scope pos) (some (.Name y py)) spos.line X.env = pure true) (hi : PI X tg iter (tI K mg W true fi)) (ok : BlkOk X.N X.env.scope scope ow) (hv : ∀ i ∈ own1, i ∈ ow.map (·.2))
    (hg : ∀ (s : Shared) (H : Hp) (C : Addr) (cl : List (Str × Addr)) (fp : List Addr), PG (X.blk s H scope (compEnvC scope cl C X.env) fp) tg (tTg K is g)) (ht : ∀ (s : Shared) (H : Hp) (C : Addr) (cl : List (Str × Addr)) (fp : List Addr), PTs (X.blk s H scope (compEnvC scope cl C X.env) fp) ifs (tTs K mg W0 c))
    (hi1 : ∀ (s : Shared) (H : Hp) (C : Addr) (cl : List (Str × Addr)) (fp : List Addr), PI (X.blk s H scope (compEnvC scope cl C X.env) fp) tg1 iter1 (tI K mg W0 false fi1))
    (hg1 : ∀ (s : Shared) (H : Hp) (C : Addr) (cl : List (Str × Addr)) (fp : List Addr), PG (X.blk s H scope (compEnvC scope cl C X.env) fp) tg1 (tTg K is1 g1)) (ht1 : ∀ (s : Shared) (H : Hp) (C : Addr) (cl : List (Str × Addr)) (fp : List Addr), PTs (X.blk s H scope (compEnvC scope cl C X.env) fp) ifs1 (tTs K mg W0 c1))
    (he : ∀ (s : Shared) (H : Hp) (C : Addr) (cl : List (Str × Addr)) (fp : List Addr), PE (X.blk s H scope (compEnvC scope cl C X.env) fp) elt (tF K mg W0 f)) (his : ∀ i ∈ is, i ∈ ow.map (·.2) := by decide) (his1 : ∀ i ∈ is1, i ∈ own1 := by decide) (hs : ∀ x, foldedSetIterable iter X.env x = pure x := by intro _; rfl) (hs1 : ∀ env x, foldedSetIterable iter1 env x = pure x := by intro _ _; rfl) :
    PS X (.Assign [.Name y py] (.ListComp elt [⟨tg, iter, ifs, 0⟩, ⟨tg1, iter1, ifs1, 0⟩] scope pos) spos) (tS K mg W (if own = true then sSetN i (eComp2 (ow.map (·.2)) fi g c fi1 own1 g1 c1 f) else sSet i (e1 listD (eComp2 (ow.map (·.2)) fi g c fi1 own1 g1 c1 f)))) :=
  (ps_setLc2 hc hN hy hyl hsw hi ok hv hg ht hi1 hg1 ht1 he hs hs1).imp fun D σ H ⟨B, F0, F, ρ, S, p⟩ => by
    refine tLc2_of his his1 ⟨B, F0, F, ρ, S, ?_⟩
    cases own with
    | true => exact PostE.of_out S p fun ds _ q F' H' v st ⟨a, xs, ev, hn, nf, ha, r⟩ => by subst ev; exact q _ F' H' (set_own_of S st hn nf ha r) st.fk
    | false =>
      have p2 : PostS K mg W B F0 F H D ((eComp2 (ow.map (·.2)) fi g c fi1 own1 g1 c1 f ρ).out fun ds => .nx (ρ.set i (.val (.list ds)))) := by
        rw [if_neg (by decide)] at p
        unfold sSet e1 at p
        cases e : eComp2 (ow.map (·.2)) fi g c fi1 own1 g1 c1 f ρ with
        | _ => rw [e] at p; exact p
      refine PostE.of_out S p2 fun ds _ q F' H' v st ⟨a, xs, ev, hn, nf, ha, r⟩ => ?_
      subst ev
      have s2 : Stp F H (fun b => F' b ∨ b = a) H' := ⟨fun b h => .inl (st.sub b h), st.keep, fun b h => h.elim (fun z => st.new b z) fun z => .inr (by rw [z]; exact ⟨hn, by rw [ha]; simp⟩)⟩
      exact q _ _ H' ((S.stp s2).set_val (.lst (.inr rfl) ha (r.fk ⟨fun _ h => .inl h, fun _ _ _ h => h⟩))) s2.fk
end
end Pf
/-! Pf11: short forms. -/
namespace Pf
open PySem PySem.Spec PyProof.Rows L2

theorem takes0 {X : Cx} : Takes X W0 := fun _ _ x => by
  obtain ⟨_, _, _, _, _, _, _, _, _, _, _, _, _, _, _, _, z⟩ := x
  exact z.elim
theorem u64 {k : Nat} {A : Around} (r : Room k A) : A.units + 64 < cLine := r.units
theorem u66 {k : Nat} {A : Around} (r : Room k A) : A.units + 66 < cLine := by have := r.un; omega
abbrev FnP (K : PySem.W.Frag) (x : Str) (st : Stmt) (f : Addr) (fd : FuncData) : Prop := FunD K x x (defArgs st) (defBody st) (defScope st) [] [] f fd
section
variable {P : Program} {w : World} {K : PySem.W.Frag} {mg : Str → Option Value} {base : Heap}
/-- THE RULE of a def: its body as a plain function of the slots -/
theorem fnD_ok {x : Str} {st : Stmt} {f : Addr} {fd : FuncData} {N ps : List Str} {n j k : Nat} {g : Ro → Out} (Fu : FnP K x st f fd) (S : FnScope N ps (defScope st)) (hn : ps.length = n) (hj : N.length - ps.length = j) (hle : ps.length ≤ N.length)
    (hbody : ∀ (cdv : Value) (A : Around) (outer : List Env) (s : Shared) (H : Hp) (E : XK), Room k (A.deeper (envOfC x (defScope st) s.heap.objs.size f cdv)) →
      PSs (cxOf (L2.CX P w) P w K mg base N x (defScope st) f cdv A outer s H E) (defBody st) (tS K mg (fun cls d _ H' => E cls d H') g)) : FnOk P w K mg base (L2.CX P w) (k + 1) f fd ps (spOf K mg n (mDef n j g)) := by
  refine FunD.ok Fu S (fun vs H Q E h => h.1.trans hn.symm) fun cdv A outer s H vs Q E hr hsp => ?_
  refine ⟨_, hbody cdv A outer s H E hr, ?_⟩
  obtain ⟨hl, F, ds, ht, r, p⟩ := hsp
  have hl2 : vs.length = ps.length := hl.trans hn.symm
  refine ⟨H, F, F, _, start_ste hl2 hle ht r, ?_⟩
  rw [hj]
  unfold mDef at p
  rw [if_pos (by rw [← r.length]; exact hl)] at p
  cases eg : g (ds.map .val ++ List.replicate j .un) with
  | nx ρ' => rw [eg] at p; exact fun σ' F' H' S' k => p F' H' .non ⟨S'.sub, S'.same, fun a h => (S'.reg a h).imp id fun z => ⟨z, S'.trk a h⟩⟩ .non
  | ret d => rw [eg] at p; exact fun v F' H' s r => p F' H' v s r
  | bk ρ' => rw [eg] at p; exact p.elim
  | ct ρ' => rw [eg] at p; exact p.elim
  | exc c k => rw [eg] at p; exact fun σ' H' dx C s e1 e2 => p H' dx C s e1 e2
  | bad => rw [eg] at p; exact p.elim
end

section
variable {X : Cx} {mg : Str → Option Value} {W : WX} {pos p : Pos} {e : Expr} {f : Ro → Res PyData}
theorem pf_1B (h : PE X e (tB X.K mg W f)) (hs : starEach [e] X.env = (false, eval e X.env) :: starEach [] X.env := by rfl) : PA X [e] (tABs X.K mg W (eCons f eNil)) := pf_consB h pf_nilB hs
theorem pf_len (hm : X.mg "len" = none) (h : PE X e (tB X.K mg W f)) (hg : Gl X "len" := by rfl) (hs : starEach [e] X.env = (false, eval e X.env) :: starEach [] X.env := by rfl) (hpl : (backTo pos (starEach [] X.env)).any (·.1) = false := by rfl) : PE X (.Call (.Name "len" p) [e] [] pos) (tF X.K mg W (e1 lenD (eCons f eNil))) :=
  pf_callB call_len sem_len hg hm (by rfl) (pf_1B h hs) (by decide) (by decide) hs hpl
theorem pf_abs (hm : X.mg "abs" = none) (h : PE X e (tB X.K mg W f)) (hg : Gl X "abs" := by rfl) (hs : starEach [e] X.env = (false, eval e X.env) :: starEach [] X.env := by rfl) (hpl : (backTo pos (starEach [] X.env)).any (·.1) = false := by rfl) : PE X (.Call (.Name "abs" p) [e] [] pos) (tF X.K mg W (e1 absD (eCons f eNil))) :=
  pf_callB call_abs sem_abs hg hm (by rfl) (pf_1B h hs) (by decide) (by decide) hs hpl
theorem pf_int1 (hm : X.mg "int" = none) (h : PE X e (tB X.K mg W f)) (hg : Gl X "int" := by rfl) (hs : starEach [e] X.env = (false, eval e X.env) :: starEach [] X.env := by rfl) (hpl : (backTo pos (starEach [] X.env)).any (·.1) = false := by rfl) : PE X (.Call (.Name "int" p) [e] [] pos) (tF X.K mg W (e1 intD (eCons f eNil))) :=
  pf_callTy call_int1 sem_int hg hm (by rfl) (pf_1B h hs) (by decide) (by decide) hs hpl
theorem pf_sum (hc : X.calm = true) (hm : X.mg "sum" = none) (h : PE X e (tB X.K mg W f)) (hg : Gl X "sum" := by rfl) (hs : starEach [e] X.env = (false, eval e X.env) :: starEach [] X.env := by rfl) (hpl : (backTo pos (starEach [] X.env)).any (·.1) = false := by rfl) : PE X (.Call (.Name "sum" p) [e] [] pos) (tF X.K mg W (e1 sumD (eCons f eNil))) :=
  pf_callB (cr_sum hc) sem_sum hg hm (by rfl) (pf_1B h hs) (by decide) (by decide) hs hpl
theorem pf_all (hc : X.calm = true) (hm : X.mg "all" = none) (h : PE X e (tB X.K mg W f)) (hg : Gl X "all" := by rfl) (hs : starEach [e] X.env = (false, eval e X.env) :: starEach [] X.env := by rfl) (hpl : (backTo pos (starEach [] X.env)).any (·.1) = false := by rfl) : PE X (.Call (.Name "all" p) [e] [] pos) (tF X.K mg W (e1 allD (eCons f eNil))) :=
  pf_callB (cr_all hc) sem_all hg hm (by rfl) (pf_1B h hs) (by decide) (by decide) hs hpl
theorem pf_any (hc : X.calm = true) (hm : X.mg "any" = none) (h : PE X e (tB X.K mg W f)) (hg : Gl X "any" := by rfl) (hs : starEach [e] X.env = (false, eval e X.env) :: starEach [] X.env := by rfl) (hpl : (backTo pos (starEach [] X.env)).any (·.1) = false := by rfl) : PE X (.Call (.Name "any" p) [e] [] pos) (tF X.K mg W (e1 anyD (eCons f eNil))) :=
  pf_callB (cr_any hc) sem_any hg hm (by rfl) (pf_1B h hs) (by decide) (by decide) hs hpl
theorem pf_max (hc : X.calm = true) (hm : X.mg "max" = none) (h : PE X e (tB X.K mg W f)) (hg : Gl X "max" := by rfl) (hs : starEach [e] X.env = (false, eval e X.env) :: starEach [] X.env := by rfl) (hpl : (backTo pos (starEach [] X.env)).any (·.1) = false := by rfl) : PE X (.Call (.Name "max" p) [e] [] pos) (tF X.K mg W (e1 maxD (eCons f eNil))) :=
  pf_callB (cr_max hc) sem_max hg hm (by rfl) (pf_1B h hs) (by decide) (by decide) hs hpl
theorem pf_min (hc : X.calm = true) (hm : X.mg "min" = none) (h : PE X e (tB X.K mg W f)) (hg : Gl X "min" := by rfl) (hs : starEach [e] X.env = (false, eval e X.env) :: starEach [] X.env := by rfl) (hpl : (backTo pos (starEach [] X.env)).any (·.1) = false := by rfl) : PE X (.Call (.Name "min" p) [e] [] pos) (tF X.K mg W (e1 minD (eCons f eNil))) :=
  pf_callB (cr_min hc) sem_min hg hm (by rfl) (pf_1B h hs) (by decide) (by decide) hs hpl
theorem pf_maxT (hc : X.calm = true) (hu : X.A.units + 66 < cLine) (hm : X.mg "max" = none) (h : PE X e (tB X.K mg W f)) (hg : Gl X "max" := by rfl) (hs : starEach [e] X.env = (false, eval e X.env) :: starEach [] X.env := by rfl) (hpl : (backTo pos (starEach [] X.env)).any (·.1) = false := by rfl) : PE X (.Call (.Name "max" p) [e] [] pos) (tF X.K mg W (e1 maxTD (eCons f eNil))) :=
  pf_callB (cr_maxT hc hu) sem_maxT hg hm (by rfl) (pf_1B h hs) (by decide) (by decide) hs hpl
theorem pf_minT (hc : X.calm = true) (hu : X.A.units + 66 < cLine) (hm : X.mg "min" = none) (h : PE X e (tB X.K mg W f)) (hg : Gl X "min" := by rfl) (hs : starEach [e] X.env = (false, eval e X.env) :: starEach [] X.env := by rfl) (hpl : (backTo pos (starEach [] X.env)).any (·.1) = false := by rfl) : PE X (.Call (.Name "min" p) [e] [] pos) (tF X.K mg W (e1 minTD (eCons f eNil))) :=
  pf_callB (cr_minT hc hu) sem_minT hg hm (by rfl) (pf_1B h hs) (by decide) (by decide) hs hpl
theorem pf_tuple (hm : X.mg "tuple" = none) (h : PE X e (tB X.K mg W f)) (hg : Gl X "tuple" := by rfl) (hs : starEach [e] X.env = (false, eval e X.env) :: starEach [] X.env := by rfl) (hpl : (backTo pos (starEach [] X.env)).any (·.1) = false := by rfl) : PE X (.Call (.Name "tuple" p) [e] [] pos) (tF X.K mg W (e1 tupleD (eCons f eNil))) :=
  pf_callTy call_tuple_of sem_tuple hg hm (by rfl) (pf_1B h hs) (by decide) (by decide) hs hpl
theorem pf_list (hm : X.mg "list" = none) (h : PE X e (tB X.K mg W f)) (hg : Gl X "list" := by rfl) (hs : starEach [e] X.env = (false, eval e X.env) :: starEach [] X.env := by rfl) (hpl : (backTo pos (starEach [] X.env)).any (·.1) = false := by rfl) : PE X (.Call (.Name "list" p) [e] [] pos) (tN X.K mg W (e1 listN (eCons f eNil))) :=
  pf_callTyN call_list_of sem_list hg hm (by rfl) (pf_1B h hs) (by decide) (by decide) hs hpl
theorem pf_sorted (hm : X.mg "sorted" = none) (h : PE X e (tB X.K mg W f)) (hg : Gl X "sorted" := by rfl) (hs : starEach [e] X.env = (false, eval e X.env) :: starEach [] X.env := by rfl) (hpl : (backTo pos (starEach [] X.env)).any (·.1) = false := by rfl) : PE X (.Call (.Name "sorted" p) [e] [] pos) (tN X.K mg W (e1 sortedN (eCons f eNil))) :=
  pf_callBN cr_sortedI sem_sorted hg hm (by rfl) (pf_1B h hs) (by decide) (by decide) hs hpl
variable {a b : Expr} {g h : Ro → Res PyData}
theorem pf_2B (ha : PE X a (tB X.K mg W g)) (hb : PE X b (tB X.K mg W h)) (hs : starEach [a, b] X.env = (false, eval a X.env) :: starEach [b] X.env := by rfl) (hs2 : starEach [b] X.env = (false, eval b X.env) :: starEach [] X.env := by rfl) : PA X [a, b] (tABs X.K mg W (eCons g (eCons h eNil))) := pf_consB ha (pf_consB hb pf_nilB hs2) hs
theorem pf_max2 (hc : X.calm = true) (hm : X.mg "max" = none) (ha : PE X a (tB X.K mg W g)) (hb : PE X b (tB X.K mg W h)) (hg : Gl X "max" := by rfl) (hs : starEach [a, b] X.env = (false, eval a X.env) :: starEach [b] X.env := by rfl) (hs2 : starEach [b] X.env = (false, eval b X.env) :: starEach [] X.env := by rfl) (hpl : (backTo pos (starEach [b] X.env)).any (·.1) = false := by rfl) :
    PE X (.Call (.Name "max" p) [a, b] [] pos) (tF X.K mg W (e1 max2D (eCons g (eCons h eNil)))) := pf_callB (call_max2 hc) sem_max2 hg hm (by rfl) (pf_2B ha hb hs hs2) (by decide) (by decide) hs hpl
theorem pf_min2 (hc : X.calm = true) (hm : X.mg "min" = none) (ha : PE X a (tB X.K mg W g)) (hb : PE X b (tB X.K mg W h)) (hg : Gl X "min" := by rfl) (hs : starEach [a, b] X.env = (false, eval a X.env) :: starEach [b] X.env := by rfl) (hs2 : starEach [b] X.env = (false, eval b X.env) :: starEach [] X.env := by rfl) (hpl : (backTo pos (starEach [b] X.env)).any (·.1) = false := by rfl) :
    PE X (.Call (.Name "min" p) [a, b] [] pos) (tF X.K mg W (e1 min2D (eCons g (eCons h eNil)))) := pf_callB (call_min2 hc) sem_min2 hg hm (by rfl) (pf_2B ha hb hs hs2) (by decide) (by decide) hs hpl
end
end Pf
/-! Pf12: the head's Hook: defs, names, the errors. -/
namespace Pf
open PySem PySem.Spec PyProof.Rows L2

def oexB (K : PySem.W.Frag) (C : Addr) : Bool := (match K.lookup C with
  | some ⟨.type "type", _, .cls cd, sl⟩ => (match cd.mro, sl.toList with
    | .ref C' :: bm, [_, _, _, _, some (.builtin n), _] => C' == C && n == "ValueError.__new__" && !cd.hasDel && cd.hasDict && PySem.HandSPX.refsVE bm
    | _, _ => false)
  | _ => false) && (decide (PySem.W.findIn K (.ref C) "__setattr__" = some (some (.builtin "object.__setattr__"))) && (decide (PySem.W.subIn K (.ref C) (.type "BaseException") = some true) && (decide (PySem.W.typeIn K (.ref C) = some (.type "type")) && PySem.W.keepIn K (.ref C))))
theorem oexB_ok {K : PySem.W.Frag} {C : Addr} (h : oexB K C = true) : OexC K C := by
  obtain ⟨h1, h⟩ := He.ba h
  obtain ⟨h2, h⟩ := He.ba h
  obtain ⟨h3, h⟩ := He.ba h
  obtain ⟨h4, h5⟩ := He.ba h
  refine ⟨?_, of_decide_eq_true h2, of_decide_eq_true h3, of_decide_eq_true h4, h5⟩
  split at h1
  · rename_i dd cd sl ho
    split at h1
    · rename_i C' bm k0 k1 k2 k3 n k5 hm hs
      simp only [Bool.and_eq_true, beq_iff_eq, Bool.not_eq_true'] at h1
      obtain ⟨⟨⟨⟨rfl, rfl⟩, hdel⟩, hdict⟩, ht⟩ := h1
      obtain ⟨nm, bs, mro, ns, qn, hd, sn, sub, ab, col, del⟩ := cd
      dsimp only at hm hdel hdict
      subst hm hdel hdict
      have hsl : sl = #[k0, k1, k2, k3, some (.builtin "ValueError.__new__"), k5] := by
        obtain ⟨l⟩ := sl
        simp only at hs
        rw [hs]
      subst hsl
      exact ⟨nm, qn, ns, bs, bm, sn, sub, ab, col, dd, k0, k1, k2, k3, k5, ho, ht⟩
    · cases h1
  · cases h1
/-- the first error class's __init__ -/
def iA (K : PySem.W.Frag) (D : Str) : Addr := He.ma K (He.ga K D) "__init__"
def cA (K : PySem.W.Frag) (D : Str) : Addr := match K.lookup (iA K D) with
  | some ⟨_, _, .func fd, _⟩ => (match fd.closure with
    | [(_, c)] => c
    | _ => 0)
  | _ => 0
abbrev InV : Type := Option (Str × Str × Arguments × FuncBody × Scope × Addr × List Str × Addr)
def inW (K : PySem.W.Frag) (D : Str) : InV := match K.lookup (iA K D) with
  | some ⟨_, _, .func fd, _⟩ => some (fd.name, fd.qualname, fd.params, fd.body, fd.scope, fd.globals, fd.closure.map (·.1), fd.builtins)
  | _ => none
def inVal (qual : Str) (st : Stmt) : InV := some ("__init__", qual, defArgs st, .stmts (defBody st), defScope st, mainGlobals, ["__class__"], builtinsNs)
def noneV : Value → Bool
  | .none => true
  | _ => false
def strV (file : Str) : Option Value → Bool
  | some (.str f _) => file == f
  | _ => false
def fldB (file : Str) : Option Obj → Bool
  | some ⟨_, _, .fields vs, _⟩ => strV file vs[2]?
  | _ => false
def codB (K : PySem.W.Frag) (file : Str) : Value → Bool
  | .ref cda => fldB file (K.lookup cda)
  | _ => false
def funB (K : PySem.W.Frag) (qual file : Str) : Option Obj → Bool
  | some ⟨_, _, .func fd, _⟩ => PySem.W.codeIn K fd.code qual && (noneV fd.defaults && codB K file fd.code)
  | _ => false
def celB (d : Addr) : Option Obj → Bool
  | some ⟨_, _, .cell (some (.ref D')), _⟩ => D' == d
  | _ => false
def inB (K : PySem.W.Frag) (D qual : Str) (file : Str) : Bool := PySem.W.keepIn K (.ref (iA K D)) && (funB K qual file (K.lookup (iA K D)) && (celB (He.ga K D) (K.lookup (cA K D)) && (PySem.W.clsIn K (He.ga K D)).isSome))
theorem celB_ok {d : Addr} {o : Option Obj} (h : celB d o = true) : ∃ (cl : Value) (cld : Option Addr) (csl : Array (Option Value)), o = some ⟨cl, cld, .cell (some (.ref d)), csl⟩ := by
  unfold celB at h
  split at h
  · rw [beq_iff_eq.mp h]; exact ⟨_, _, _, rfl⟩
  · cases h
theorem codB_ok {K : PySem.W.Frag} {file : Str} {v : Value} (h : codB K file v = true) : ∃ cda ccl cdd vs ccs f t, v = .ref cda ∧ K.lookup cda = some ⟨ccl, cdd, .fields vs, ccs⟩ ∧ vs[2]? = some (.str f t) ∧ (file == f) = true := by
  unfold codB at h
  split at h
  · rename_i cda
    unfold fldB at h
    split at h
    · rename_i vs _ e
      unfold strV at h
      split at h
      · rename_i f t e2
        exact ⟨cda, _, _, _, _, f, t, rfl, e, e2, h⟩
      · cases h
    · cases h
  · cases h
theorem inB_ok {P : Program} {K : PySem.W.Frag} {mg : Str → Option Value} {D qual : Str} {st : Stmt} (h : inB K D qual P.main.file = true) (e : inW K D = inVal qual st) (hs : mg "super" = none) (ht : (P.main.scope.names.lookup ("super" : Str)).isSome = false) : ∃ fd, InitF P K mg qual st (iA K D) fd (He.ga K D) (cA K D) := by
  obtain ⟨h1, h⟩ := He.ba h
  obtain ⟨h2, h⟩ := He.ba h
  obtain ⟨h3, h4⟩ := He.ba h
  have hc := celB_ok h3
  have hcl : ∃ cd, PySem.W.clsIn K (He.ga K D) = some cd := Option.isSome_iff_exists.mp h4
  unfold inW at e
  have hcA : cA K D = (match K.lookup (iA K D) with
    | some ⟨_, _, .func fd, _⟩ => (match fd.closure with
      | [(_, c)] => c
      | _ => 0)
    | _ => 0) := rfl
  cases q : K.lookup (iA K D) with
  | none => rw [q] at h2; cases h2
  | some o =>
    obtain ⟨oc, od, dt, osl⟩ := o
    rw [q] at h2 e hcA
    cases dt with
    | func fd =>
      obtain ⟨n1, n2, n3, n4, n5, n6, n7, n8, n9, n10, n11, n12, n13, n14, n15⟩ := fd
      have e2 : (some (n1, n2, n3, n4, n5, n6, n7.map (·.1), n15) : InV) = inVal qual st := e
      unfold inVal at e2
      simp only [Option.some.injEq, Prod.mk.injEq] at e2
      obtain ⟨g1, g2, g3, g4, g5, g6, g7, g8⟩ := e2
      subst g1 g2 g3 g4 g5 g6 g8
      obtain ⟨c, rfl⟩ : ∃ c : Addr, n7 = [(("__class__" : Str), c)] := by
        match n7, g7 with
        | [(x, c)], g7 =>
          have : x = ("__class__" : Str) := by simpa using g7
          rw [this]
          exact ⟨c, rfl⟩
      have hcA : cA K D = c := hcA
      have h2 : (PySem.W.codeIn K n13 n2 && (noneV n8 && codB K P.main.file n13)) = true := h2
      obtain ⟨k1, k2⟩ := He.ba h2
      obtain ⟨k3, k4⟩ := He.ba k2
      have e8 : n8 = .none := by
        unfold noneV at k3
        split at k3
        · rfl
        · cases k3
      obtain ⟨cda, ccl, cdd, vs, ccs, f, t, rfl, q2, q3, q4⟩ := codB_ok k4
      subst e8
      exact ⟨_, ⟨oc, od, n9, n10, n11, n12, cda, n14, osl, ccl, cdd, vs, ccs, f, t, by rw [hcA], q, k1, q2, q3, q4⟩, h1, hc, hcl, hs, ht⟩
    | _ => cases h2
def exOkB (K : PySem.W.Frag) (D C : Str) : Bool := oexB K (He.ga K C) && (decide (PySem.W.findIn K (.ref (He.ga K C)) "__init__" = some (some (.ref (iA K D)))) && (decide (PySem.W.findIn K (.ref (He.ga K C)) "at" = some none) &&
  (decide (PySem.W.mroIn K (He.ga K C) (.ref (He.ga K D)) = some true) && (decide (PySem.W.ks_superIn K (He.ga K C) (He.ga K D) "__init__" = some (some (.builtin "ValueError.__init__"))) &&
  (decide (PySem.W.subIn K (.ref (He.ga K C)) (.type "ValueError") = some true) && (decide (PySem.W.nsIn K cStatics "thirdparty.any" = some none) && (decide (PySem.W.typeIn K (.ref (iA K D)) = some (.type "function")) && xfB K (He.ga K C))))))))
theorem exOkB_ok {K : PySem.W.Frag} {D C : Str} (h : exOkB K D C = true) : ExcOk K (He.ga K D) (iA K D) (He.ga K C) ∧ XfC K (He.ga K C) := by
  obtain ⟨h1, h⟩ := He.ba h
  obtain ⟨h2, h⟩ := He.ba h
  obtain ⟨h3, h⟩ := He.ba h
  obtain ⟨h4, h⟩ := He.ba h
  obtain ⟨h5, h⟩ := He.ba h
  obtain ⟨h6, h⟩ := He.ba h
  obtain ⟨h7, h⟩ := He.ba h
  obtain ⟨h8, h9⟩ := He.ba h
  exact ⟨⟨oexB_ok h1, of_decide_eq_true h2, of_decide_eq_true h3, of_decide_eq_true h4, of_decide_eq_true h5, of_decide_eq_true h6, of_decide_eq_true h7, of_decide_eq_true h8⟩, xfB_ok h9⟩

/-- nothing let out at the end -/
theorem fn_close {P : Program} {w : World} {K : PySem.W.Frag} {mg : Str → Option Value} {base : Heap} {k : Nat} {f : Addr} {fd : FuncData} {ps : List Str} {sp : Sp} (F : FnOk P w K mg base (L2.CX P w) k f fd ps sp) : FnOk P w K mg base CX0 k f fd ps (fun vs H Q _ => sp vs H Q (fun _ _ _ => False)) := by
  refine ⟨fun vs H Q E h => F.len vs H Q _ h, fun A outer s H args us vs Q E hr e0 hb r h => ?_⟩
  refine codeAny_mono (F.run A outer s H args us vs Q (fun _ _ _ => False) hr e0 hb r h) fun r s' hq => ?_
  cases r with
  | error e =>
    obtain ⟨_, _, _, _, _, _, _, _, _, _, _, _, z⟩ := hq
    exact z.elim
  | ok fl => cases fl <;> exact hq
/-- the law's script -/
theorem Rp_scr {K : PySem.W.Frag} {H : Hp} {a : Addr} {ns : List Int} (hO : Only H) (h : SqL K H a (ns.map V.int)) : ∃ F : Rg, (∀ b, F b → H b ≠ none) ∧ Rp K F H (.ref a) (scr ns) := by
  rcases h with (h | ⟨o, h⟩) | h
  · rcases hO a with z | ⟨o, xs, z⟩
    · rw [z] at h; cases h
    · rw [z] at h; cases h
  · exact ⟨fun b => b = a, fun b e => by rw [e, h]; simp, .scr rfl h⟩
  · exact ⟨fun _ => False, fun _ z => z.elim, .scrK h⟩
theorem sp_law {K : PySem.W.Frag} {mg : Str → Option Value} {m : List PyData → Res PyData} {n : Nat} (hm : ∀ ns : List Int, ns.length ≤ n → m [scr ns] = .ok (.bool true)) (H : Hp) (a : Addr) (ns : List Int) (hl : ns.length ≤ n) (hO : Only H) (h : SqL K H a (ns.map V.int)) :
    (fun vs H Q (_ : XK) => spOf K mg 1 m vs H Q (fun _ _ _ => False)) [.ref a] H (fun v _ => v = .bl true) (fun _ _ _ => False) := by
  obtain ⟨F, ht, r⟩ := Rp_scr hO h
  refine ⟨rfl, F, [scr ns], ht, .cons r .nil, ?_⟩
  rw [hm ns hl]
  exact fun F' H' v _ rv => (RpB.rp rv).bool'

/-! ### the Hook: names, defs, D the class with the __init__, cs the classes raised, pairs of classes caught -/
structure Wt where
  fa : List He.Fa
  fn : List He.DefD
  D : Str
  qual : Str
  st : Stmt
  file : Str
  cs : List Str
  ex : List (Str × Str × Bool)
abbrev AlP : Type := He.AlD × Bool × InV
def obsP (t : Wt) (K : PySem.W.Frag) : AlP := (He.obsD t.fa t.fn K, inB K t.D t.qual t.file && (t.cs.all (fun c => exOkB K t.D c) && t.ex.all fun e => (He.Fa.exm e.1 e.2.1 e.2.2).ok K), inW K t.D)
def valP (t : Wt) : AlP := (He.valD t.fn, true, inVal t.qual t.st)
def SaysP (t : Wt) (K : PySem.W.Frag) : Prop := obsP t K = valP t
/-- what is reached: also the object that holds what stands in no name -/
def asP (g : Addr → Option Obj) (n : Nat) : List Addr := cStatics :: He.asD g n
def obsPG (n : Nat) (t : Wt) (g : Addr → Option Obj) : AlP := obsP t (He.frG g (asP g n))
def hookP (n : Nat) (t : Wt) : PySem.W.Hook where
  α := AlP
  obs := fun s => obsPG n t s.heap.get?
  val := fun _ => valP t
  says := fun _ h => ∃ K : PySem.W.Frag, K.In h ∧ SaysP t K
  of := fun _ _ e => ⟨_, He.frG_in, e⟩
  keeps := fun _ _ _ ⟨K, hK, c⟩ k => ⟨K, PySem.W.Frag.In.keeps hK k, c⟩
theorem obsPG_eq {n : Nat} {t : Wt} {g : Addr → Option Obj} {s : Shared} (h : ∀ a, g a = s.heap.get? a) : obsPG n t g = (hookP n t).obs s := by
  have e : g = s.heap.get? := funext h
  rw [e] <;> rfl
section
variable {t : Wt} {K : PySem.W.Frag}
theorem SaysP.d (c : SaysP t K) : He.SaysD t.fa t.fn K := congrArg (fun z : AlP => z.1) c
theorem SaysP.b (c : SaysP t K) : inB K t.D t.qual t.file = true ∧ (∀ x ∈ t.cs, exOkB K t.D x = true) ∧ ∀ e ∈ t.ex, (He.Fa.exm e.1 e.2.1 e.2.2).ok K = true := by
  obtain ⟨h1, h⟩ := He.ba (show (inB K t.D t.qual t.file && (t.cs.all (fun c => exOkB K t.D c) && t.ex.all fun e => (He.Fa.exm e.1 e.2.1 e.2.2).ok K)) = true from congrArg (fun z : AlP => z.2.1) c)
  obtain ⟨h2, h3⟩ := He.ba h
  exact ⟨h1, List.all_eq_true.mp h2, List.all_eq_true.mp h3⟩
theorem SaysP.i (c : SaysP t K) : inW K t.D = inVal t.qual t.st := congrArg (fun z : AlP => z.2.2) c
end
end Pf
/-! Pf13: mirrors reckoned. -/
namespace Pf
open PySem PySem.Spec PyProof.Rows L2

section
variable {α β γ : Type}
@[simp] theorem mDef_eq (n j : Nat) (g : Ro → Out) (ds : List PyData) : mDef n j g ds = if ds.length = n then outR (g (ds.map .val ++ List.replicate j .un)) else .bad := rfl
@[simp] theorem sSeq_eq (g h : Ro → Out) (ρ : Ro) : sSeq g h ρ = (g ρ).seq h := rfl
@[simp] theorem sPass_eq (ρ : Ro) : sPass ρ = .nx ρ := rfl
@[simp] theorem sSet_eq (i : Nat) (f : Ro → Res PyData) (ρ : Ro) : sSet i f ρ = (f ρ).out fun d => .nx (ρ.set i (.val d)) := rfl
@[simp] theorem sSetN_eq (i : Nat) (f : Ro → Res (List PyData)) (ρ : Ro) : sSetN i f ρ = (f ρ).out fun d => .nx (ρ.set i (.own d)) := rfl
@[simp] theorem sAsg_eq (g : PyData → Ro → Option Ro) (f : Ro → Res PyData) (ρ : Ro) : sAsg g f ρ = (f ρ).out fun d => oNx (g d ρ) := rfl
@[simp] theorem sExpr_eq (f : Ro → Res PyData) (ρ : Ro) : sExpr f ρ = (f ρ).out fun _ => .nx ρ := rfl
@[simp] theorem sRet_eq (f : Ro → Res PyData) (ρ : Ro) : sRet f ρ = (f ρ).out .ret := rfl
@[simp] theorem sRetN_eq (ρ : Ro) : sRetN ρ = .ret .none := rfl
@[simp] theorem sIf_eq (c : Ro → Res Bool) (g h : Ro → Out) (ρ : Ro) : sIf c g h ρ = (c ρ).out fun b => if b = true then g ρ else h ρ := rfl
@[simp] theorem sFor_eq (fi : Ro → Res (List PyData)) (g : PyData → Ro → Option Ro) (b : Ro → Out) (ρ : Ro) : sFor fi g b ρ = (fi ρ).out fun ds => forF g b ds ρ := rfl
@[simp] theorem sWhile_eq (n : Nat) (c : Ro → Res Bool) (b : Ro → Out) (ρ : Ro) : sWhile n c b ρ = whF c b n ρ := rfl
@[simp] theorem sFrz_eq (is : List Nat) (g : Ro → Out) (ρ : Ro) : sFrz is g ρ = g (frz is ρ) := rfl
@[simp] theorem frz_nil (ρ : Ro) : frz [] ρ = ρ := rfl
@[simp] theorem frz_cons (i : Nat) (is : List Nat) (ρ : Ro) : frz (i :: is) ρ = frz is (frz1 i ρ) := rfl
@[simp] theorem frz1_own {i : Nat} {ρ : Ro} {ds : List PyData} (h : ρ[i]? = some (.own ds)) : frz1 i ρ = ρ.set i (.val (.list ds)) := by unfold frz1; rw [h]
@[simp] theorem frz1_val {i : Nat} {ρ : Ro} {d : PyData} (h : ρ[i]? = some (.val d)) : frz1 i ρ = ρ := by unfold frz1; rw [h]
@[simp] theorem sParM_eq (is : List Nat) (fs : Ro → Res (List Ent)) (ρ : Ro) : sParM is fs ρ = (fs ρ).out fun es => if es.length = is.length then .nx (setE ρ is es) else .bad := rfl
@[simp] theorem mNil_eq (ρ : Ro) : mNil ρ = .ok [] := rfl
@[simp] theorem mVal_eq (f : Ro → Res PyData) (g : Ro → Res (List Ent)) (ρ : Ro) : mVal f g ρ = (f ρ).bind fun d => (g ρ).bind fun es => .ok (.val d :: es) := rfl
@[simp] theorem mOwn_eq (f : Ro → Res (List PyData)) (g : Ro → Res (List Ent)) (ρ : Ro) : mOwn f g ρ = (f ρ).bind fun d => (g ρ).bind fun es => .ok (.own d :: es) := rfl
@[simp] theorem setE_nil (ρ : Ro) (es : List Ent) : setE ρ [] es = ρ := by cases es <;> rfl
@[simp] theorem setE_cons (ρ : Ro) (i : Nat) (is : List Nat) (e : Ent) (es : List Ent) : setE ρ (i :: is) (e :: es) = setE (ρ.set i e.sl) is es := rfl
@[simp] theorem Ent.sl_val (d : PyData) : (Ent.val d).sl = .val d := rfl
@[simp] theorem Ent.sl_own (d : List PyData) : (Ent.own d).sl = .own d := rfl
@[simp] theorem sApp_eq {i : Nat} {ρ : Ro} {ds : List PyData} (f : Ro → Res PyData) (h : ρ[i]? = some (.own ds)) : sApp i f ρ = (f ρ).out fun d => if ds.length < 16777216 then .nx (ρ.set i (.own (ds ++ [d]))) else .bad := by unfold sApp; rw [h]
@[simp] theorem sRaise_eq (c : Str) (f : Ro → Res PyData) (ρ : Ro) (k : Int) (h : f ρ = .ok (.int k)) : sRaise c f ρ = .exc c k := by unfold sRaise; rw [h]; rfl
@[simp] theorem eVar_val {i : Nat} {ρ : Ro} {d : PyData} (h : ρ[i]? = some (.val d)) : eVar i ρ = .ok d := by unfold eVar; rw [h]
@[simp] theorem eVarB_val {i : Nat} {ρ : Ro} {d : PyData} (h : ρ[i]? = some (.val d)) : eVarB i ρ = .ok d := by unfold eVarB; rw [h]
@[simp] theorem eVarB_own {i : Nat} {ρ : Ro} {d : List PyData} (h : ρ[i]? = some (.own d)) : eVarB i ρ = .ok (.list d) := by unfold eVarB; rw [h]
@[simp] theorem eC_eq (d : PyData) (ρ : Ro) : eC d ρ = .ok d := rfl
@[simp] theorem e1_eq (s : α → Option β) (f : Ro → Res α) (ρ : Ro) : e1 s f ρ = (f ρ).bind fun d => ofO (s d) := rfl
@[simp] theorem e2_eq (s : α → β → Option γ) (f : Ro → Res α) (g : Ro → Res β) (ρ : Ro) : e2 s f g ρ = (f ρ).bind fun d => (g ρ).bind fun e => ofO (s d e) := rfl
@[simp] theorem eNil_eq (ρ : Ro) : eNil ρ = .ok [] := rfl
@[simp] theorem eCons_eq (f : Ro → Res PyData) (g : Ro → Res (List PyData)) (ρ : Ro) : eCons f g ρ = (f ρ).bind fun d => (g ρ).bind fun ds => .ok (d :: ds) := rfl
@[simp] theorem eStar_eq (f : Ro → Res PyData) (g : Ro → Res (List PyData)) (ρ : Ro) : eStar f g ρ = (f ρ).bind fun d => (ofO (itL d)).bind fun xs => (g ρ).bind fun ds => .ok (xs ++ ds) := rfl
@[simp] theorem eIf_eq (c : Ro → Res Bool) (f g : Ro → Res α) (ρ : Ro) : eIf c f g ρ = (c ρ).bind fun b => if b = true then f ρ else g ρ := rfl
@[simp] theorem eAnd_eq (c d : Ro → Res Bool) (ρ : Ro) : eAnd c d ρ = (c ρ).bind fun b => if b = true then d ρ else .ok false := rfl
@[simp] theorem eOr_eq (c d : Ro → Res Bool) (ρ : Ro) : eOr c d ρ = (c ρ).bind fun b => if b = true then .ok true else d ρ := rfl
@[simp] theorem eNot_eq (c : Ro → Res Bool) (ρ : Ro) : eNot c ρ = (c ρ).bind fun b => .ok (!b) := rfl
@[simp] theorem eCall_eq (m : List PyData → Res PyData) (fs : Ro → Res (List PyData)) (ρ : Ro) : eCall m fs ρ = (fs ρ).bind m := rfl
@[simp] theorem eBool_eq (c : Ro → Res Bool) (ρ : Ro) : eBool c ρ = (c ρ).bind fun b => .ok (.bool b) := rfl
@[simp] theorem eChain_eq (s s' : PyData → PyData → Option PyData) (f g h : Ro → Res PyData) (ρ : Ro) : eChain s s' f g h ρ = (f ρ).bind fun d => (g ρ).bind fun e => (ofO ((s d e).bind asB)).bind fun k => if k = true then (h ρ).bind fun u => ofO ((s' e u).bind asB) else .ok false := rfl
@[simp] theorem eSl_eq (s : PyData → Option Int → Option Int → Option β) (f : Ro → Res PyData) (l u : Ro → Res (Option Int)) (ρ : Ro) : eSl s f l u ρ = (f ρ).bind fun d => (l ρ).bind fun i => (u ρ).bind fun j => ofO (s d i j) := rfl
@[simp] theorem eNone_eq (ρ : Ro) : eNone ρ = .ok none := rfl
@[simp] theorem eComp_eq (own : List Nat) (fi : Ro → Res (List PyData)) (g : PyData → Ro → Option Ro) (c : Ro → Res Bool) (f : Ro → Res PyData) (ρ : Ro) : eComp own fi g c f ρ = (fi ρ).bind fun ds => ofO (compF g c f (wipeR ρ own) ds) := rfl
@[simp] theorem eTrue_eq (ρ : Ro) : eTrue ρ = .ok true := rfl
@[simp] theorem wipeR_nil (ρ : Ro) : wipeR ρ [] = ρ := rfl
@[simp] theorem wipeR_cons (ρ : Ro) (i : Nat) (is : List Nat) : wipeR ρ (i :: is) = (wipeR ρ is).set i .un := rfl
@[simp] theorem gSet_eq (i : Nat) (d : PyData) (ρ : Ro) : gSet i d ρ = some (ρ.set i (.val d)) := rfl
@[simp] theorem gsNil_eq (ρ : Ro) : gsNil [] ρ = some ρ := rfl
@[simp] theorem gsCons_eq (g : PyData → Ro → Option Ro) (gs : List PyData → Ro → Option Ro) (d : PyData) (ds : List PyData) (ρ : Ro) : gsCons g gs (d :: ds) ρ = (g d ρ).bind (gs ds) := rfl
@[simp] theorem gUnp_tuple (gs : List PyData → Ro → Option Ro) (ds : List PyData) (ρ : Ro) : gUnp gs (.tuple ds) ρ = gs ds ρ := rfl
@[simp] theorem gUnp_list (gs : List PyData → Ro → Option Ro) (ds : List PyData) (ρ : Ro) : gUnp gs (.list ds) ρ = gs ds ρ := rfl
@[simp] theorem asB_bool (b : Bool) : asB (.bool b) = some b := rfl
@[simp] theorem asI_int (i : Int) : asI (.int i) = some (some i) := rfl
@[simp] theorem itL_list (xs : List PyData) : itL (.list xs) = some xs := rfl
@[simp] theorem itL_tuple (xs : List PyData) : itL (.tuple xs) = some xs := rfl
@[simp] theorem listL_list (xs : List PyData) : listL (.list xs) = some xs := rfl
@[simp] theorem listD_eq (xs : List PyData) : listD xs = some (.list xs) := rfl
@[simp] theorem tupD_eq (xs : List PyData) : tupD xs = some (.tuple xs) := rfl
@[simp] theorem listN_list (xs : List PyData) : listN [.list xs] = some xs := rfl
@[simp] theorem lenD_list (xs : List PyData) : lenD [.list xs] = some (.int xs.length) := rfl
@[simp] theorem lenD_tuple (xs : List PyData) : lenD [.tuple xs] = some (.int xs.length) := rfl
@[simp] theorem lenD_scr (ns : List Int) : lenD [scr ns] = some (.int ns.length) := by simp [lenD]
@[simp] theorem absD_int (i : Int) : absD [.int i] = some (.int i.natAbs) := by
  show some (PyData.int (if i < 0 then -i else i)) = _
  congr 2; split <;> omega
@[simp] theorem intD_int (i : Int) : intD [.int i] = some (.int i) := rfl
@[simp] theorem intD_bool (i : Bool) : intD [.bool i] = some (.int (if i then 1 else 0)) := rfl
@[simp] theorem max2D_int (i j : Int) : max2D [.int i, .int j] = some (.int (max i j)) := by
  show some (PyData.int (if j > i then j else i)) = _
  congr 2; split <;> omega
@[simp] theorem min2D_int (i j : Int) : min2D [.int i, .int j] = some (.int (min i j)) := by
  show some (PyData.int (if j < i then j else i)) = _
  congr 2; split <;> omega
@[simp] theorem addD_int (a b : Int) : addD (.int a) (.int b) = some (.int (a + b)) := rfl
@[simp] theorem subD_int (a b : Int) : subD (.int a) (.int b) = some (.int (a - b)) := rfl
theorem mulD_int {a b : Int} (h : okMul a b = true) : mulD (.int a) (.int b) = some (.int (a * b)) := by simp [mulD, h]
@[simp] theorem negD_int (a : Int) : negD (.int a) = some (.int (-a)) := rfl
@[simp] theorem modD_int {a b : Int} (h : 0 < b) : modD (.int a) (.int b) = some (.int (a % b)) := by simp [modD, h]
theorem divD_int {a b : Int} (h : 0 < b) (h2 : b.natAbs.log2 < 9000) : divD (.int a) (.int b) = some (.int (a / b)) := by simp [divD, h, h2]
@[simp] theorem ltD_int (a b : Int) : ltD (.int a) (.int b) = some (.bool (decide (a < b))) := rfl
@[simp] theorem leD_int (a b : Int) : leD (.int a) (.int b) = some (.bool (decide (a ≤ b))) := rfl
@[simp] theorem gtD_int (a b : Int) : gtD (.int a) (.int b) = some (.bool (decide (b < a))) := rfl
@[simp] theorem geD_int (a b : Int) : geD (.int a) (.int b) = some (.bool (decide (b ≤ a))) := rfl
@[simp] theorem ixD_list (xs : List PyData) (i : Int) : ixD (.list xs) (.int i) = atI xs i := rfl
@[simp] theorem ixD_tuple (xs : List PyData) (i : Int) : ixD (.tuple xs) (.int i) = atI xs i := rfl
@[simp] theorem ixD_scr (ns : List Int) (i : Int) : ixD (scr ns) (.int i) = (atI ns i).map .int := by
  show atI ((ns.map fun n => (PyData.none, PyData.int n)).map (·.2)) i = _
  have : (ns.map fun n => (PyData.none, PyData.int n)).map (·.2) = ns.map PyData.int := by simp [List.map_map, Function.comp_def]
  rw [this]
  unfold atI
  simp [List.getElem?_map]
  cases ixN ns.length i <;> simp
@[simp] theorem atI_map {δ : Type} (f : α → δ) (xs : List α) (i : Int) : atI (xs.map f) i = (atI xs i).map f := by
  unfold atI
  simp [List.getElem?_map]
  cases ixN xs.length i <;> simp
theorem atI_nat (xs : List α) (k : Nat) : atI xs (k : Int) = xs[k]? := by
  unfold atI ixN
  rw [if_pos (by omega)]
  by_cases h : k < xs.length
  · rw [if_pos (by omega)]
    simp
  · rw [if_neg (by omega), List.getElem?_eq_none (by omega)]
    rfl
@[simp] theorem atI_0 (xs : List α) : atI xs 0 = xs[0]? := atI_nat xs 0
@[simp] theorem atI_1 (xs : List α) : atI xs 1 = xs[1]? := atI_nat xs 1
@[simp] theorem atI_2 (xs : List α) : atI xs 2 = xs[2]? := atI_nat xs 2
@[simp] theorem atI_3 (xs : List α) : atI xs 3 = xs[3]? := atI_nat xs 3
theorem atI_at {xs : List α} {i : Int} {x : α} (h0 : 0 ≤ i) (h : xs[i.toNat]? = some x) : atI xs i = some x := by
  have := atI_nat xs i.toNat
  rw [Int.toNat_of_nonneg h0] at this
  rw [this, h]
/-- a loop that goes on from state to state -/
theorem forF_run {σ : Type} (st : σ → Ro) {g : PyData → Ro → Option Ro} {b : Ro → Out} (step : σ → PyData → σ) (P : σ → Prop) : ∀ (ds : List PyData) (a : σ), P a →
    (∀ a d, P a → d ∈ ds → P (step a d) ∧ ∃ ρ, g d (st a) = some ρ ∧ (b ρ = .nx (st (step a d)) ∨ b ρ = .ct (st (step a d)))) → forF g b ds (st a) = .nx (st (ds.foldl step a))
  | [], a, _, _ => rfl
  | d :: ds, a, hP, h => by
    obtain ⟨h1, ρ, h2, h3⟩ := h a d hP (List.mem_cons_self ..)
    unfold forF
    rw [h2]
    have ih := forF_run st step P ds (step a d) h1 fun a d' q hd => h a d' q (List.mem_cons_of_mem _ hd)
    rcases h3 with h3 | h3 <;> simp [h3, ih]
theorem forF_inv {g : PyData → Ro → Option Ro} {b : Ro → Out} (I : Nat → Ro → Prop) : ∀ (ds : List PyData) (i : Nat) (ρ : Ro), I i ρ →
    (∀ (j : Nat) (d : PyData) (ρ : Ro), ds[j]? = some d → I (i + j) ρ → ∃ ρ1 ρ2, g d ρ = some ρ1 ∧ (b ρ1 = .nx ρ2 ∨ b ρ1 = .ct ρ2) ∧ I (i + j + 1) ρ2) → ∃ ρ', forF g b ds ρ = .nx ρ' ∧ I (i + ds.length) ρ'
  | [], i, ρ, h, _ => ⟨ρ, rfl, h⟩
  | d :: ds, i, ρ, h, hs => by
    obtain ⟨ρ1, ρ2, h1, h2, h3⟩ := hs 0 d ρ rfl h
    obtain ⟨ρ', h4, h5⟩ := forF_inv I ds (i + 1) ρ2 h3 fun j d' ρ q hI => by
      have := hs (j + 1) d' ρ (by simpa using q) (by rw [show i + (j + 1) = i + 1 + j by omega]; exact hI)
      rw [show i + 1 + j + 1 = i + (j + 1) + 1 by omega]
      exact this
    refine ⟨ρ', ?_, by rw [show i + (d :: ds).length = i + 1 + ds.length by simp; omega]; exact h5⟩
    unfold forF
    rw [h1]
    rcases h2 with h2 | h2 <;> simp [h2, h4]
/-- a comprehension over what is told -/
theorem compF_map {ι : Type} (toD : ι → PyData) {g : PyData → Ro → Option Ro} {c : Ro → Res Bool} {f : Ro → Res PyData} {ρ : Ro} (p : ι → Bool) (h : ι → PyData) : ∀ (xs : List ι),
    (∀ x ∈ xs, ∃ ρ1, g (toD x) ρ = some ρ1 ∧ c ρ1 = .ok (p x) ∧ (p x = true → f ρ1 = .ok (h x))) → compF g c f ρ (xs.map toD) = some ((xs.filter p).map h)
  | [], _ => rfl
  | x :: xs, hx => by
    obtain ⟨ρ1, h1, h2, h3⟩ := hx x (List.mem_cons_self ..)
    have ih := compF_map toD p h xs fun y hy => hx y (List.mem_cons_of_mem _ hy)
    rw [List.map_cons]
    unfold compF
    rw [h1]
    cases hp : p x with
    | true => simp [h2, hp, h3 hp, ih]
    | false => simp [h2, hp, ih]
theorem compF_all {ι : Type} (toD : ι → PyData) {g : PyData → Ro → Option Ro} {f : Ro → Res PyData} {ρ : Ro} (h : ι → PyData) (xs : List ι)
    (hx : ∀ x ∈ xs, ∃ ρ1, g (toD x) ρ = some ρ1 ∧ f ρ1 = .ok (h x)) : compF g eTrue f ρ (xs.map toD) = some (xs.map h) := by
  have := compF_map toD (c := eTrue) (ρ := ρ) (fun _ => true) h xs fun x hm => let ⟨ρ1, a, b⟩ := hx x hm; ⟨ρ1, a, rfl, fun _ => b⟩
  rw [this, List.filter_eq_self.mpr fun _ _ => rfl]
@[simp] theorem rg1_int (n : Int) (h : -4611686018427387904 ≤ n) (h2 : n ≤ 16777216) : rg1 [.int n] = some (rngL 0 n.toNat) := by
  show (if -4611686018427387904 ≤ n ∧ n ≤ 16777216 then some (rngL 0 n.toNat) else none) = _
  rw [if_pos ⟨h, h2⟩]
theorem rg2_int (i j : Int) (h1 : -4611686018427387904 ≤ i) (h2 : i < 4611686018427387904) (h3 : -4611686018427387904 ≤ j) (h4 : j < 4611686018427387904) (h5 : j - i ≤ 16777216) : rg2 [.int i, .int j] = some (rngL i (j - i).toNat) := by
  show (if _ then _ else _) = _
  rw [if_pos ⟨h1, h2, h3, h4, h5⟩]
theorem rngL_0 (n : Nat) : rngL 0 n = (List.range n).map fun i => PyData.int (i : Nat) := by
  unfold rngL
  simp
@[simp] theorem sumD_ints (ns : List Int) : sumD [.list (ns.map .int)] = some (.int ns.sum) := by
  show (intsO (ns.map PyData.int)).map (fun ns => PyData.int ns.sum) = _
  rw [intsO_map]
  rfl
@[simp] theorem maxD_ints (ns : List Int) : maxD [.list (ns.map .int)] = (maxL ns).map PyData.int := by
  show (intsO (ns.map PyData.int)).bind (fun ns => (maxL ns).map PyData.int) = _
  rw [intsO_map]
  rfl
@[simp] theorem minD_ints (ns : List Int) : minD [.list (ns.map .int)] = (minL ns).map PyData.int := by
  show (intsO (ns.map PyData.int)).bind (fun ns => (minL ns).map PyData.int) = _
  rw [intsO_map]
  rfl
@[simp] theorem allD_bools (ns : List Bool) : allD [.list (ns.map .bool)] = some (.bool (ns.all id)) := by
  show (boolsO (ns.map PyData.bool)).map (fun bs => PyData.bool (bs.all id)) = _
  rw [boolsO_map]
  rfl
theorem forF_nil (g : PyData → Ro → Option Ro) (b : Ro → Out) (ρ : Ro) : forF g b [] ρ = .nx ρ := rfl
end
/-! ### slices -/
section
variable {α : Type}
@[simp] theorem slT_list (xs : List PyData) (i j : Option Int) : slT (.list xs) i j = some (.list (cutD xs i j)) := rfl
@[simp] theorem slL_list (xs : List PyData) (i j : Option Int) : slL (.list xs) i j = some (cutD xs i j) := rfl
theorem cut_from (xs : List PyData) (k : Nat) : cutD xs (some (k : Int)) none = xs.drop k := by
  unfold cutD
  rw [HT.sIx_nat, HT.sIx_none]
  by_cases h : k ≤ xs.length
  · rw [Nat.min_eq_left h, List.take_of_length_le (by simp)]
  · rw [Nat.min_eq_right (by omega), List.drop_of_length_le (Nat.le_refl _), List.drop_of_length_le (by omega)]
    simp
theorem cut_to (xs : List PyData) (k : Nat) : cutD xs none (some (k : Int)) = xs.take k := by
  unfold cutD
  rw [HT.sIx_nat, HT.sIx_none, List.drop_zero, Nat.sub_zero]
  by_cases h : k ≤ xs.length
  · rw [Nat.min_eq_left h]
  · rw [Nat.min_eq_right (by omega), List.take_of_length_le (Nat.le_refl _), List.take_of_length_le (by omega)]
theorem cut_m2 (l : List PyData) (a b : PyData) : cutD (l ++ [a, b]) (some (-2)) none = [a, b] := by
  unfold cutD
  have e : HT.sIx (l ++ [a, b]).length 0 (some (-2)) = l.length := by
    show (if (-2 : Int) < 0 then ((-2 : Int) + ((l ++ [a, b]).length : Int)).toNat else min (-2 : Int).toNat (l ++ [a, b]).length) = _
    rw [if_pos (by decide)]
    simp
    omega
  rw [e, HT.sIx_none]
  simp
theorem cut_to_m2 (l : List PyData) (a b : PyData) : cutD (l ++ [a, b]) none (some (-2)) = l := by
  unfold cutD
  have e : HT.sIx (l ++ [a, b]).length (l ++ [a, b]).length (some (-2)) = l.length := by
    show (if (-2 : Int) < 0 then ((-2 : Int) + ((l ++ [a, b]).length : Int)).toNat else min (-2 : Int).toNat (l ++ [a, b]).length) = _
    rw [if_pos (by decide)]
    simp
    omega
  rw [e, HT.sIx_none]
  simp
theorem atI_m1 (l : List α) (a : α) : atI (l ++ [a]) (-1) = some a := by
  unfold atI ixN
  rw [if_neg (by decide), if_pos (by simp; omega)]
  have e : ((-1 : Int) + ((l ++ [a]).length : Int)).toNat = l.length := by simp; omega
  simp only [Option.bind_some]
  rw [e]
  simp
theorem atI_m2 (l : List α) (a b : α) : atI (l ++ [a, b]) (-2) = some a := by
  unfold atI ixN
  rw [if_neg (by decide), if_pos (by simp; omega)]
  have e : ((-2 : Int) + ((l ++ [a, b]).length : Int)).toNat = l.length := by simp; omega
  simp only [Option.bind_some]
  rw [e]
  simp
theorem atI_m1' (l : List α) (a b : α) : atI (l ++ [a, b]) (-1) = some b := by
  have := atI_m1 (l ++ [a]) b
  simpa using this
@[simp] theorem enumL_list (xs : List PyData) : enumL [.list xs] = some (xs.zipIdx.map fun p => .tuple [.int (p.2 : Nat), p.1]) := rfl
theorem zipL_list (xs ys : List PyData) (h : xs.length ≤ 16777216) : zipL [.list xs, .list ys] = some ((xs.zip ys).map fun p => .tuple [p.1, p.2]) := if_pos h
@[simp] theorem isD_none (d : PyData) : isD d .none = some (.bool (isNo d)) := by cases d <;> rfl
@[simp] theorem isnD_none (d : PyData) : isnD d .none = some (.bool (!isNo d)) := by cases d <;> rfl
@[simp] theorem isD_bool (a b : Bool) : isD (.bool a) (.bool b) = some (.bool (decide (a = b))) := rfl
@[simp] theorem isnD_bool (a b : Bool) : isnD (.bool a) (.bool b) = some (.bool (!decide (a = b))) := rfl
end
/-- a small number -/
theorem log_lt {a : Int} {k : Nat} (h : a.natAbs < 2 ^ k) (hk : 0 < k) : a.natAbs.log2 < k := by
  by_cases h0 : a.natAbs = 0
  · rw [h0]; simpa using hk
  · exact (Nat.log2_lt h0).mpr h
theorem okMul_of {a b : Int} {k l : Nat} (h : a.natAbs < 2 ^ k) (h2 : b.natAbs < 2 ^ l) (hs : k + l < 999000 := by decide) : okMul a b = true := by
  unfold okMul
  have h1 : a.natAbs.log2 < k + 1 := log_lt (Nat.lt_of_lt_of_le h (Nat.pow_le_pow_right (by decide) (by omega))) (by omega)
  have h3 : b.natAbs.log2 < l + 1 := log_lt (Nat.lt_of_lt_of_le h2 (Nat.pow_le_pow_right (by decide) (by omega))) (by omega)
  simp only [decide_eq_true_eq]
  omega
end Pf
/-! Pf14: membership in lists and tuples; tuples of the module; the hook that tells of them. -/
namespace Pf
open PySem PySem.Spec PyProof.Rows L2
section
variable {X : Cx} {K : PySem.W.Frag} {mg : Str → Option Value} {W : WX} {pos : Pos}

/-! ### in, not in -/
def inD : PyData → PyData → Option PyData
  | d, .list ds => if SeqAt.shaped d = true ∧ SeqAt.shaped (.list ds) = true then some (.bool (ds.any fun z => PyData.eqv z d)) else none
  | d, .tuple ds => if SeqAt.shaped d = true ∧ SeqAt.shaped (.tuple ds) = true then some (.bool (ds.any fun z => PyData.eqv z d)) else none
  | _, _ => none
def ninD : PyData → PyData → Option PyData
  | d, .list ds => if SeqAt.shaped d = true ∧ SeqAt.shaped (.list ds) = true then some (.bool (!ds.any fun z => PyData.eqv z d)) else none
  | d, .tuple ds => if SeqAt.shaped d = true ∧ SeqAt.shaped (.tuple ds) = true then some (.bool (!ds.any fun z => PyData.eqv z d)) else none
  | _, _ => none
def rInT (K : PySem.W.Frag) : R2 := fun x y H Q => ∃ d ds, Dp K H x d ∧ Dp K H y (.tuple ds) ∧ SeqAt.shaped d = true ∧ SeqAt.shaped (.tuple ds) = true ∧ Q (.bl (ds.any fun z => PyData.eqv z d)) H
def rNinT (K : PySem.W.Frag) : R2 := fun x y H Q => ∃ d ds, Dp K H x d ∧ Dp K H y (.tuple ds) ∧ SeqAt.shaped d = true ∧ SeqAt.shaped (.tuple ds) = true ∧ Q (.bl (!ds.any fun z => PyData.eqv z d)) H
theorem room_inT {A : Around} {ds : List PyData} {d : PyData} (sd : SeqAt.shaped d = true) (hu : A.units + 65 < cLine) : A.units + 1 + min (PyData.depthAll ds) d.depth < cLine := by
  have h : (d.canLay0 && decide (d.depth ≤ 64)) = true := sd
  have h2 : d.depth ≤ 64 := of_decide_eq_true (Bool.and_eq_true_iff.mp h).2
  omega
theorem op_inT (hu : X.A.units + 65 < cLine) : OpR X (compareOp .In) (rInT X.K) := by
  intro pins s σ H x y v u Q I rx ry h
  obtain ⟨d, ds, hd, he, sd, se, q⟩ := h
  obtain ⟨as, r1⟩ := Dp.reads I d x v hd rx
  obtain ⟨bs, r2⟩ := Dp.reads I (.tuple ds) y u he ry
  exact SeqAt.in_tuple_reads r2 r1 (SeqAt.canLay_of_shaped se) (SeqAt.canLay_of_shaped sd) (room_inT sd hu) ⟨.bl _, H, I, rfl, q⟩
theorem op_ninT (hu : X.A.units + 65 < cLine) : OpR X (compareOp .NotIn) (rNinT X.K) := by
  intro pins s σ H x y v u Q I rx ry h
  obtain ⟨d, ds, hd, he, sd, se, q⟩ := h
  obtain ⟨as, r1⟩ := Dp.reads I d x v hd rx
  obtain ⟨bs, r2⟩ := Dp.reads I (.tuple ds) y u he ry
  exact SeqAt.notIn_tuple_reads r2 r1 (SeqAt.canLay_of_shaped se) (SeqAt.canLay_of_shaped sd) (room_inT sd hu) ⟨.bl _, H, I, rfl, q⟩
theorem sem_in : Sem2 K (fun x y H Q => rInD K x y H Q ∨ rInT K x y H Q) inD := by
  intro F H x y d e z Q rx ry hs h
  unfold inD at hs
  split at hs
  · split at hs
    · rename_i hl
      cases hs
      exact .inl ⟨_, _, rx.dp (SeqAt.canLay_of_shaped hl.1), ry.dp (SeqAt.canLay_of_shaped hl.2), hl.1, hl.2, h F H _ Stp.refl (.bl _)⟩
    · cases hs
  · split at hs
    · rename_i hl
      cases hs
      exact .inr ⟨_, _, rx.dp (SeqAt.canLay_of_shaped hl.1), ry.dp (SeqAt.canLay_of_shaped hl.2), hl.1, hl.2, h F H _ Stp.refl (.bl _)⟩
    · cases hs
  · cases hs
theorem sem_nin : Sem2 K (fun x y H Q => rNotInD K x y H Q ∨ rNinT K x y H Q) ninD := by
  intro F H x y d e z Q rx ry hs h
  unfold ninD at hs
  split at hs
  · split at hs
    · rename_i hl
      cases hs
      exact .inl ⟨_, _, rx.dp (SeqAt.canLay_of_shaped hl.1), ry.dp (SeqAt.canLay_of_shaped hl.2), hl.1, hl.2, h F H _ Stp.refl (.bl _)⟩
    · cases hs
  · split at hs
    · rename_i hl
      cases hs
      exact .inr ⟨_, _, rx.dp (SeqAt.canLay_of_shaped hl.1), ry.dp (SeqAt.canLay_of_shaped hl.2), hl.1, hl.2, h F H _ Stp.refl (.bl _)⟩
    · cases hs
  · cases hs
theorem cm_in (hK : X.K = K) (hu : X.A.units + 66 < cLine) : CmpR X K .In inD := ⟨_, (op_inD (by omega)).or (op_inT (by omega)), hK ▸ sem_in⟩
theorem cm_nin (hK : X.K = K) (hu : X.A.units + 66 < cLine) : CmpR X K .NotIn ninD := ⟨_, (op_notInD (by omega)).or (op_ninT (by omega)), hK ▸ sem_nin⟩

/-! ### tuples of the module -/
def atB : Value → PyData → Bool
  | .int i _, .int j => i == j
  | .str x _, .str y => x == y
  | .bool a, .bool b => a == b
  | .none, .none => true
  | _, _ => false
def atsB : List Value → List PyData → Bool
  | [], [] => true
  | v :: vs, d :: ds => atB v d && atsB vs ds
  | _, _ => false
def tupB (K : PySem.W.Frag) (a : Addr) (ds : List PyData) : Bool := match K.lookup a with
  | some ⟨.type "tuple", _, .seq its _, _⟩ => decide (its.size ≤ 16777216) && atsB its.toList ds
  | _ => false
structure GTup (K : PySem.W.Frag) (a : Addr) (ds : List PyData) : Prop where
  h : ∃ xs, StT K a xs ∧ ∀ F H, Rps K F H xs ds
theorem atB_ok {v : Value} {d : PyData} (h : atB v d = true) : ∃ x, RelV x v ∧ ∀ F H, Rp K F H x d := by
  unfold atB at h
  split at h
  · cases eq_of_beq h; exact ⟨.int _, ⟨_, rfl⟩, fun _ _ => .int _⟩
  · cases eq_of_beq h; exact ⟨.str _, ⟨_, rfl⟩, fun _ _ => .str _⟩
  · cases eq_of_beq h; exact ⟨.bl _, rfl, fun _ _ => .bl _⟩
  · exact ⟨.non, rfl, fun _ _ => .non⟩
  · cases h
theorem atsB_ok : ∀ {vs : List Value} {ds : List PyData}, atsB vs ds = true → ∃ xs, Vals xs vs ∧ ∀ F H, Rps K F H xs ds
  | [], [], _ => ⟨[], .nil, fun _ _ => .nil⟩
  | [], _ :: _, h => by cases h
  | _ :: _, [], h => by cases h
  | v :: vs, d :: ds, h => by
    obtain ⟨h1, h2⟩ := He.ba (show (atB v d && atsB vs ds) = true from h)
    obtain ⟨x, r, p⟩ := atB_ok (K := K) h1
    obtain ⟨xs, rs, ps⟩ := atsB_ok h2
    exact ⟨x :: xs, .cons r rs, fun F H => .cons (p F H) (ps F H)⟩
theorem tupB_ok {a : Addr} {ds : List PyData} (h : tupB K a ds = true) : GTup K a ds := by
  unfold tupB at h
  split at h
  · rename_i q
    obtain ⟨h1, h2⟩ := He.ba h
    obtain ⟨xs, rs, ps⟩ := atsB_ok (K := K) h2
    exact ⟨xs, ⟨_, _, _, q, rfl, rfl, by rw [sizeLine_eq]; exact of_decide_eq_true h1, rs⟩, ps⟩
  · cases h
theorem pf_gtupK {x : Str} {a : Addr} {ds : List PyData} (hg : Gl X x) (hm : X.mg x = some (.ref a)) (t : GTup K a ds) (hd : (x == ("__debug__" : Str)) = false := by decide) : PE X (.Name x pos) (tF K mg W (eC (.tuple ds))) := by
  obtain ⟨xs, st, r⟩ := t.h
  exact pf_c (pe_glob (v := .ref a) hg hm rfl hd) fun F H => .tupK st (r F H)
theorem pf_gstr {x y : Str} (hg : Gl X x) (hm : ∃ t, X.mg x = some (.str y t)) (hd : (x == ("__debug__" : Str)) = false := by decide) : PE X (.Name x pos) (tF K mg W (eC (.str y))) := by
  obtain ⟨t, hm⟩ := hm
  exact pf_c (pe_glob (v := .str y) hg hm ⟨t, rfl⟩ hd) fun _ _ => .str y
end

/-! ### the Hook with the module's tuples -/
structure WtT extends Wt where
  tp : List (Str × List PyData)
def tupsB (K : PySem.W.Frag) (l : List (Str × List PyData)) : Bool := l.all fun e => tupB K (He.ga K e.1) e.2
abbrev AlT : Type := AlP × Bool
def obsT (t : WtT) (K : PySem.W.Frag) : AlT := (obsP t.toWt K, tupsB K t.tp)
def valT (t : WtT) : AlT := (valP t.toWt, true)
def SaysT (t : WtT) (K : PySem.W.Frag) : Prop := obsT t K = valT t
def obsTG (n : Nat) (t : WtT) (g : Addr → Option Obj) : AlT := obsT t (He.frG g (asP g n))
def hookT (n : Nat) (t : WtT) : PySem.W.Hook where
  α := AlT
  obs := fun s => obsTG n t s.heap.get?
  val := fun _ => valT t
  says := fun _ h => ∃ K : PySem.W.Frag, K.In h ∧ SaysT t K
  of := fun _ _ e => ⟨_, He.frG_in, e⟩
  keeps := fun _ _ _ ⟨K, hK, c⟩ k => ⟨K, PySem.W.Frag.In.keeps hK k, c⟩
theorem obsTG_eq {n : Nat} {t : WtT} {g : Addr → Option Obj} {s : Shared} (h : ∀ a, g a = s.heap.get? a) : obsTG n t g = (hookT n t).obs s := by
  have e : g = s.heap.get? := funext h
  rw [e] <;> rfl
section
variable {t : WtT} {K : PySem.W.Frag}
theorem SaysT.p (c : SaysT t K) : SaysP t.toWt K := congrArg (fun z : AlT => z.1) c
theorem SaysT.tps (c : SaysT t K) : ∀ e ∈ t.tp, GTup K (He.ga K e.1) e.2 := fun e he => tupB_ok (List.all_eq_true.mp (show tupsB K t.tp = true from congrArg (fun z : AlT => z.2) c) e he)
end
end Pf
/-! Pf15: sorted(xs) of data alike, any depth. -/
namespace Pf
open PySem PySem.Spec PyProof.Rows L2
section
variable {X : Cx} {K : PySem.W.Frag} {mg : Str → Option Value} {W : WX} {pos : Pos}
def isTup1 : PyData → Bool
  | .tuple (_ :: _) => true
  | _ => false
def notTup : PyData → Bool
  | .none => false
  | .tuple _ => false
  | _ => true
/-- what may be sorted: alike, none of them flat None, few, shallow -/
def okSort (ds : List PyData) : Bool := (ds.all fun d => ds.all fun e => PySem.W.alike d e) && ((ds.all isTup1 || ds.all notTup) && (ds.all fun d => SeqAt.shaped d))
def sortD (ds : List PyData) : List PyData := ds.mergeSort fun a b => !PySem.W.dataLt b a
def sortTN : List PyData → Option (List PyData)
  | [.list ds] => if okSort ds = true then some (sortD ds) else none
  | _ => none
theorem okSort_alike {ds : List PyData} (h : okSort ds = true) : PySem.W.AllAlike ds := by
  obtain ⟨h1, _⟩ := He.ba h
  intro d hd e he
  exact List.all_eq_true.mp (List.all_eq_true.mp h1 d hd) e he
theorem okSort_sortable {ds : List PyData} (h : okSort ds = true) : PySem.W.Sortable ds := by
  obtain ⟨_, h2⟩ := He.ba h
  obtain ⟨h2, _⟩ := He.ba h2
  rcases Bool.or_eq_true_iff.mp h2 with z | z
  · refine .inl fun d hd => ?_
    have q := List.all_eq_true.mp z d hd
    unfold isTup1 at q
    split at q
    · exact ⟨_, _, rfl⟩
    · cases q
  · refine .inr fun d hd => ?_
    have q := List.all_eq_true.mp z d hd
    exact ⟨fun e => (by subst e; cases q), fun xs e => (by subst e; cases q)⟩
theorem okSort_shaped {ds : List PyData} (h : okSort ds = true) : ∀ d ∈ ds, SeqAt.shaped d = true := fun d hd => by
  obtain ⟨_, h2⟩ := He.ba h
  obtain ⟨_, h3⟩ := He.ba h2
  exact List.all_eq_true.mp h3 d hd
/-- sorted(xs) of a list that reads as the ds: the pairs of place and datum, in order -/
def rSortD (K : PySem.W.Frag) : List V → Hp → VK → Prop := fun vs H Q => ∃ (a : Addr) (xs : List V) (ds : List PyData), vs = [V.ref a] ∧ SqL K H a xs ∧ DpAll K H xs ds ∧ okSort ds = true ∧
  ∀ p, H p = none → Q (.ref p) (upd H p (.lst (((xs.zip ds).mergeSort (PySem.W.dataLe false Prod.snd)).map Prod.fst)))
theorem each_of {R : Value → V × PyData → Prop} : ∀ {xs : List V} {us : List Value} {ds : List PyData}, Vals xs us → xs.length = ds.length → (∀ x u d, (x, d) ∈ xs.zip ds → RelV x u → R u (x, d)) → PySem.W.EachIs R us (xs.zip ds)
  | [], _, ds, .nil, hl, _ => by
    cases ds with
    | nil => exact .nil
    | cons _ _ => cases hl
  | x :: xs, _, ds, .cons r t, hl, h => by
    cases ds with
    | nil => cases hl
    | cons d ds => exact .cons (h x _ d (List.mem_cons_self ..) r) (each_of t (by simpa using hl) fun x u d m => h x u d (List.mem_cons_of_mem _ m))
theorem each_vals : ∀ {us : List Value} {bs : List (V × PyData)}, PySem.W.EachIs (fun u b => RelV b.1 u) us bs → Vals (bs.map Prod.fst) us
  | _, _, .nil => .nil
  | _, _, .cons r t => .cons r (each_vals t)
theorem DpAll.length' {K : PySem.W.Frag} {H : Hp} : ∀ {xs : List V} {ds : List PyData}, DpAll K H xs ds → xs.length = ds.length
  | _, _, .nil => rfl
  | _, _, .cons _ t => by simp [DpAll.length' t]
theorem DpAll.at_zip {K : PySem.W.Frag} {H : Hp} : ∀ {xs : List V} {ds : List PyData}, DpAll K H xs ds → ∀ x d, (x, d) ∈ xs.zip ds → Dp K H x d
  | _, _, .nil, _, _, m => by cases m
  | _, _, .cons h t, x, d, m => by
    rcases List.mem_cons.mp m with e | m
    · cases e; exact h
    · exact DpAll.at_zip t x d m
theorem cr_sortD (hu : X.A.units + 66 < cLine) : CallR X (.builtin "sorted") (rSortD X.K) := by
  intro pins s σ H vs us Q I r h
  obtain ⟨a, xs, ds, rfl, hs, hd, ok, q⟩ := h
  obtain ⟨its, rv, hl, hz⟩ := I.list hs
  rw [Vals.ref1 r]
  have hlen := DpAll.length' hd
  have hmap : (xs.zip ds).map Prod.snd = ds := List.map_snd_zip (by omega)
  refine PySem.W.sorted_data (β := V × PyData) (enc := Prod.snd) (R := fun u b => RelV b.1 u) hl.isList (each_of rv hlen fun x u d _ r => r)
    (each_of rv hlen fun x u d m r => Dp.reads I d x u (DpAll.at_zip hd x d m) r) (by rw [hmap]; exact okSort_alike ok) (by rw [hmap]; exact okSort_sortable ok) ?_ ?_ fun out ho e => ?_
  · rw [List.length_zip, hlen, Nat.min_self, ← hlen]; exact hz
  · intro b hb
    have hm : b.2 ∈ ds := (List.of_mem_zip hb).2
    have h1 : (b.2.canLay0 && decide (b.2.depth ≤ 64)) = true := okSort_shaped ok _ hm
    have h2 : b.2.depth ≤ 64 := of_decide_eq_true (Bool.and_eq_true_iff.mp h1).2
    omega
  · have hv := each_vals e
    obtain ⟨ep, he'⟩ := PyProof.Rows.sortedAll_at s.heap its out.toArray
    have hl2 : (((xs.zip ds).mergeSort (PySem.W.dataLe false Prod.snd)).map Prod.fst).length ≤ sizeLine := by
      rw [List.length_map, (List.mergeSort_perm _ _).length_eq, List.length_zip, hlen, Nat.min_self, ← hlen]; exact hz
    exact ⟨.ref _, upd H (s.heap.objs.size + 1) (.lst _), I.laid (t' := s.toks) (fun _ _ => PyProof.Rows.sortedAll_old) (Nat.le_succ _) ⟨hl2, out, ep, hv, he'⟩, rfl, q _ (I.hok.fresh (Nat.le_succ _))⟩
theorem zip_sort_snd {xs : List V} {ds : List PyData} (hl : xs.length = ds.length) : ((xs.zip ds).mergeSort (PySem.W.dataLe false Prod.snd)).map Prod.snd = sortD ds := by
  have hmap : (xs.zip ds).map Prod.snd = ds := List.map_snd_zip (by omega)
  have h := List.map_mergeSort (r := PySem.W.dataLe false Prod.snd) (s := fun a b => !PySem.W.dataLt b a) (f := Prod.snd) (l := xs.zip ds) (fun a _ b _ => rfl)
  rw [hmap] at h
  exact h
theorem Rps.at_zip {K : PySem.W.Frag} {F : Rg} {H : Hp} : ∀ {xs : List V} {ds : List PyData}, Rps K F H xs ds → ∀ b ∈ xs.zip ds, Rp K F H b.1 b.2
  | _, _, .nil, _, m => by cases m
  | _, _, .cons h t, b, m => by
    rcases List.mem_cons.mp m with e | m
    · subst e; exact h
    · exact Rps.at_zip t b m
theorem Rps.of_pairs {K : PySem.W.Frag} {F : Rg} {H : Hp} : ∀ {bs : List (V × PyData)}, (∀ b ∈ bs, Rp K F H b.1 b.2) → Rps K F H (bs.map Prod.fst) (bs.map Prod.snd)
  | [], _ => .nil
  | b :: bs, h => .cons (h b (List.mem_cons_self ..)) (Rps.of_pairs fun c m => h c (List.mem_cons_of_mem _ m))
theorem lay_of_ok {ds : List PyData} (h : okSort ds = true) : PyData.canLayAll0 ds = true := by
  have k := okSort_shaped h
  clear h
  induction ds with
  | nil => rfl
  | cons d ds ih =>
    have h1 := SeqAt.canLay_of_shaped (k d (List.mem_cons_self ..))
    have h2 := ih fun e m => k e (List.mem_cons_of_mem _ m)
    simp only [PyData.canLayAll0, h1, h2, Bool.and_self]
theorem sem_sortT : SemCN K (rSortD K) sortTN := by
  intro F H vs ds z Q rs hs h
  unfold sortTN at hs
  split at hs
  · split at hs
    · rename_i ds ok
      cases hs
      obtain ⟨v, rfl, rv⟩ := rs.one
      obtain ⟨a, xs, rfl, ha, r⟩ := rv.list
      refine ⟨a, xs, ds, rfl, SqL.of ha, Rps.dp ds xs (lay_of_ok ok) r, ok, fun p hn => ?_⟩
      refine h p _ hn ?_
      rw [← zip_sort_snd r.length]
      exact Rps.of_pairs fun b m => Rps.at_zip r b (List.mem_mergeSort.mp m)
    · cases hs
  · cases hs
theorem pf_sortT {e : Expr} {p : Pos} {f : Ro → Res PyData} (hu : X.A.units + 66 < cLine) (hm : X.mg "sorted" = none) (h : PE X e (tB X.K mg W f)) (hg : Gl X "sorted" := by rfl) (hs : starEach [e] X.env = (false, eval e X.env) :: starEach [] X.env := by rfl) (hpl : (backTo pos (starEach [] X.env)).any (·.1) = false := by rfl) : PE X (.Call (.Name "sorted" p) [e] [] pos) (tN X.K mg W (e1 sortTN (eCons f eNil))) :=
  pf_callBN (cr_sortD hu) sem_sortT hg hm (by rfl) (pf_1B h hs) (by decide) (by decide) hs hpl
end
end Pf
/-! LawC: what the laws have in common: draws, mixes, fractions. -/
namespace LawC
open PySem PySem.Spec PyProof.Rows L2 Pf

def m__law_draws : List PyData → Res PyData := mDef 1 5 (
 sSeq (sSetN 1 (eNil))
      (sSeq (sFor (e1 rg1 (eCons (e1 min2D (eCons (eC (.int 63)) (eCons (e1 lenD (eCons (eVarB 0) eNil)) eNil))) (eNil))) (gSet 2)
      (sSeq (sSet 3 (e1 absD (eCons (e2 ixD (eVarB 0) (eVarB 2)) eNil)))
      (sIf (eTb (e2 geD (eVarB 3) (e2 powD (eC (.int 10)) (eC (.int 18)))))
      (sFor (e1 rg1 (eCons (eC (.int 60)) (eNil))) (gSet 4)
      (sIf (eTb (e2 gtD (eVarB 3) (eC (.int 0))))
      (sSeq (sApp 1 (e2 modD (e1 intD (eCons (eVarB 3) eNil)) (eC (.int 65536))))
      (sSet 3 (e2 divD (eVarB 3) (eC (.int 65536)))))
      (sPass)))
      (sSeq (sSet 5 (e2 modD (e1 intD (eCons (e2 addD (e2 mulD (eVarB 3) (eC (.int 48271))) (e2 mulD (e2 addD (eVarB 2) (eC (.int 1))) (eC (.int 69621)))) eNil)) (eC (.int 2147483647))))
      (sSeq (sSet 5 (e2 modD (e1 intD (eCons (e2 addD (e2 addD (e2 mulD (eVarB 5) (eC (.int 16807))) (e2 mulD (eC (.int 11)) (eVarB 2))) (eC (.int 5))) eNil)) (eC (.int 2147483629))))
      (sSeq (sApp 1 (e2 modD (e1 intD (eCons (eVarB 5) eNil)) (eC (.int 65536))))
      (sApp 1 (e2 modD (e1 intD (eCons (e2 divD (eVarB 5) (eC (.int 65536))) eNil)) (eC (.int 32768))))))))))
      (sFrz [1] (sRet (eVar 1)))))
def m__law_mix : List PyData → Res PyData := mDef 3 1 (
 sSeq (sSet 3 (eC (.int 0)))
      (sSeq (sIf (eTb (e2 gtD (e1 lenD (eCons (eVarB 0) eNil)) (eC (.int 0))))
      (sSet 3 (e2 ixD (eVarB 0) (e2 modD (e1 intD (eCons (eVarB 1) eNil)) (e1 lenD (eCons (eVarB 0) eNil)))))
      (sPass))
      (sSeq (sIf (eTb (e2 ltD (eVarB 1) (e1 lenD (eCons (eVarB 0) eNil))))
      (sRet (e2 modD (e1 intD (eCons (eVarB 3) eNil)) (eVarB 2)))
      (sPass))
      (sRet (e2 modD (e1 intD (eCons (e2 divD (e1 intD (eCons (e2 addD (e2 mulD (eVarB 3) (eC (.int 7919))) (e2 mulD (eVarB 1) (eC (.int 104729)))) eNil)) (eC (.int 3))) eNil)) (eVarB 2))))))
def m__law_common : List PyData → Res PyData := mDef 2 3 (
 sSeq (sParM [2, 3] (mVal (e1 absD (eCons (eVarB 0) eNil)) (mVal (e1 absD (eCons (eVarB 1) eNil)) (mNil))))
      (sSeq (sFor (e1 rg1 (eCons (eC (.int 400)) (eNil))) (gSet 4)
      (sIf (eTb (e2 gtD (eVarB 3) (eC (.int 0))))
      (sParM [2, 3] (mVal (eVar 3) (mVal (e2 modD (e1 intD (eCons (eVarB 2) eNil)) (eVarB 3)) (mNil))))
      (sPass)))
      (sRet (e1 max2D (eCons (eC (.int 1)) (eCons (eVarB 2) eNil))))))
def m__law_low : List PyData → Res PyData := mDef 2 1 (
 sSeq (sSet 2 (e2 mulD (eCall m__law_common (eCons (eVar 0) (eCons (eVar 1) (eNil)))) (e2 ixD (e1 listD (eCons (eC (.int 1)) (eCons (e1 negD (eC (.int 1))) (eNil)))) (e1 intD (eCons (e2 ltD (eVarB 1) (eC (.int 0))) eNil)))))
      (sRet (e1 tupD (eCons (e2 divD (eVarB 0) (eVarB 2)) (eCons (e2 divD (eVarB 1) (eVarB 2)) (eNil))))))
def m__law_add : List PyData → Res PyData := mDef 2 0 (
 sRet (eCall m__law_low (eCons (e2 addD (e2 mulD (e2 ixD (eVarB 0) (eC (.int 0))) (e2 ixD (eVarB 1) (eC (.int 1)))) (e2 mulD (e2 ixD (eVarB 1) (eC (.int 0))) (e2 ixD (eVarB 0) (eC (.int 1))))) (eCons (e2 mulD (e2 ixD (eVarB 0) (eC (.int 1))) (e2 ixD (eVarB 1) (eC (.int 1)))) (eNil)))))
def m__law_times : List PyData → Res PyData := mDef 2 0 (
 sRet (eCall m__law_low (eCons (e2 mulD (e2 ixD (eVarB 0) (eC (.int 0))) (e2 ixD (eVarB 1) (eC (.int 0)))) (eCons (e2 mulD (e2 ixD (eVarB 0) (eC (.int 1))) (e2 ixD (eVarB 1) (eC (.int 1)))) (eNil)))))
def m__law_sum : List PyData → Res PyData := mDef 1 2 (
 sSeq (sSet 1 (e1 tupD (eCons (eC (.int 0)) (eCons (eC (.int 1)) (eNil)))))
      (sSeq (sFor (e1 itL (eVar 0)) (gSet 2)
      (sSet 1 (eCall m__law_add (eCons (eVar 1) (eCons (eVar 2) (eNil))))))
      (sRet (eVar 1))))
def m_common : List PyData → Res PyData := mDef 2 2 (
 sSeq (sParM [2, 3] (mVal (e1 absD (eCons (eVarB 0) eNil)) (mVal (e1 absD (eCons (eVarB 1) eNil)) (mNil))))
      (sSeq (sWhile 100000 (eTb (e2 gtD (eVarB 3) (eC (.int 0))))
      (sParM [2, 3] (mVal (eVar 3) (mVal (e2 modD (eVarB 2) (eVarB 3)) (mNil)))))
      (sRet (eVar 2))))
def m_plain : List PyData → Res PyData := mDef 2 1 (
 sSeq (sSet 2 (eCall m_common (eCons (eVar 0) (eCons (eVar 1) (eNil)))))
      (sRet (e1 tupD (eCons (e2 divD (eVarB 0) (eVarB 2)) (eCons (e2 divD (eVarB 1) (eVarB 2)) (eNil))))))

abbrev intsD (ns : List Int) : PyData := .list (ns.map .int)
abbrev frD (p : Int × Int) : PyData := .tuple [.int p.1, .int p.2]

/-! ### mixes -/
theorem atI_mod {ds : List Int} {k : Int} (hp : 0 < ds.length) : ∃ x, atI ds (k % ds.length) = some x ∧ x ∈ ds := by
  have h1 : 0 ≤ k % (ds.length : Int) := Int.emod_nonneg _ (by omega)
  have h2 : k % (ds.length : Int) < ds.length := Int.emod_lt_of_pos _ (by omega)
  have h3 : (k % (ds.length : Int)).toNat < ds.length := by omega
  exact ⟨_, atI_at h1 (List.getElem?_eq_getElem h3), List.getElem_mem h3⟩
theorem natAbs_lt {a : Int} {n : Nat} (h0 : -(n : Int) < a) (h1 : a < n) : a.natAbs < n := by omega
theorem mix_ok (ds : List Int) (k many : Int) (hk : 0 ≤ k) (hk2 : k < 1000000) (hm : 0 < many) (hb : ∀ x ∈ ds, 0 ≤ x ∧ x < 65536) : ∃ r : Int, m__law_mix [intsD ds, .int k, .int many] = .ok (.int r) ∧ 0 ≤ r ∧ r < many := by
  have hmod : ∀ z : Int, 0 ≤ z % many ∧ z % many < many := fun z => ⟨Int.emod_nonneg _ (by omega), Int.emod_lt_of_pos _ hm⟩
  -- the cell
  obtain ⟨cell, hc0, hc1, hcell⟩ : ∃ cell : Int, 0 ≤ cell ∧ cell < 65536 ∧ m__law_mix [intsD ds, .int k, .int many] = outR ((sSeq (sIf (eTb (e2 ltD (eVarB 1) (e1 lenD (eCons (eVarB 0) eNil))))
      (sRet (e2 modD (e1 intD (eCons (eVarB 3) eNil)) (eVarB 2))) (sPass))
      (sRet (e2 modD (e1 intD (eCons (e2 divD (e1 intD (eCons (e2 addD (e2 mulD (eVarB 3) (eC (.int 7919))) (e2 mulD (eVarB 1) (eC (.int 104729)))) eNil)) (eC (.int 3))) eNil)) (eVarB 2)))) [.val (intsD ds), .val (.int k), .val (.int many), .val (.int cell)]) := by
    by_cases hp : 0 < ds.length
    · obtain ⟨x, hx, hxm⟩ := atI_mod (k := k) hp
      refine ⟨x, (hb x hxm).1, (hb x hxm).2, ?_⟩
      have hp' : (0 : Int) < (ds.length : Int) := by omega
      simp [m__law_mix, hp, hx, modD_int hp']
    · refine ⟨0, by omega, by omega, ?_⟩
      simp [m__law_mix, hp]
  have o1 : okMul cell 7919 = true := okMul_of (k := 17) (l := 13) (by omega) (by decide)
  have o2 : okMul k 104729 = true := okMul_of (k := 20) (l := 17) (by omega) (by decide)
  have e3 : ∀ z : Int, divD (.int z) (.int 3) = some (.int (z / 3)) := fun z => divD_int (by decide) (by decide)
  rw [hcell]
  by_cases hl : k < ds.length
  · refine ⟨cell % many, ?_, hmod _⟩
    simp [hl, modD_int hm]
  · refine ⟨((cell * 7919 + k * 104729) / 3) % many, ?_, hmod _⟩
    simp [hl, mulD_int o1, mulD_int o2, e3, modD_int hm]

def mixF (ds : List Int) (k many : Int) : Int := match m__law_mix [intsD ds, .int k, .int many] with
  | .ok (.int r) => r
  | _ => 0
theorem mixF_ok {ds : List Int} {k many : Int} (hk : 0 ≤ k) (hk2 : k < 1000000) (hm : 0 < many) (hb : ∀ x ∈ ds, 0 ≤ x ∧ x < 65536) : m__law_mix [intsD ds, .int k, .int many] = .ok (.int (mixF ds k many)) ∧ 0 ≤ mixF ds k many ∧ mixF ds k many < many := by
  obtain ⟨r, h1, h2, h3⟩ := mix_ok ds k many hk hk2 hm hb
  have : mixF ds k many = r := by unfold mixF; rw [h1]
  rw [this]
  exact ⟨h1, h2, h3⟩

/-! ### draws -/
def Dr (ds : List Int) : Prop := ds.length ≤ 3780 ∧ ∀ x ∈ ds, 0 ≤ x ∧ x < 65536
theorem draws_ok (ns : List Int) (hn : ns.length ≤ 63) : ∃ ds : List Int, m__law_draws [scr ns] = .ok (intsD ds) ∧ Dr ds := by
  have he3 : ∀ z : Int, divD (.int z) (.int 65536) = some (.int (z / 65536)) := fun z => divD_int (by decide) (by decide)
  have hmod : ∀ z : Int, 0 ≤ z % 65536 ∧ z % 65536 < 65536 := fun z => ⟨Int.emod_nonneg _ (by decide), Int.emod_lt_of_pos _ (by decide)⟩
  have hmod2 : ∀ z : Int, 0 ≤ z % 32768 ∧ z % 32768 < 65536 := fun z => ⟨Int.emod_nonneg _ (by decide), Int.lt_trans (Int.emod_lt_of_pos _ (by decide)) (by decide)⟩
  let I : Nat → Ro → Prop := fun i ρ => ∃ (ds : List Int) (a b c d : Sl), ρ = [.val (scr ns), .own (ds.map .int), a, b, c, d] ∧ ds.length ≤ 60 * i ∧ ∀ x ∈ ds, 0 ≤ x ∧ x < 65536
  have start : I 0 [.val (scr ns), .own [], .un, .un, .un, .un] := ⟨[], _, _, _, _, rfl, by simp, by simp⟩
  have hmin : min 63 (ns.length : Int) = ns.length := by omega
  have hpow : powD (.int 10) (.int 18) = some (.int 1000000000000000000) := by simp [powD]
  obtain ⟨ρ', h1, ds, a, b, c, d, rfl, hl, hb⟩ := forF_inv (g := gSet 2) (b := sSeq (sSet 3 (e1 absD (eCons (e2 ixD (eVarB 0) (eVarB 2)) eNil)))
      (sIf (eTb (e2 geD (eVarB 3) (e2 powD (eC (.int 10)) (eC (.int 18)))))
      (sFor (e1 rg1 (eCons (eC (.int 60)) (eNil))) (gSet 4)
      (sIf (eTb (e2 gtD (eVarB 3) (eC (.int 0))))
      (sSeq (sApp 1 (e2 modD (e1 intD (eCons (eVarB 3) eNil)) (eC (.int 65536))))
      (sSet 3 (e2 divD (eVarB 3) (eC (.int 65536)))))
      (sPass)))
      (sSeq (sSet 5 (e2 modD (e1 intD (eCons (e2 addD (e2 mulD (eVarB 3) (eC (.int 48271))) (e2 mulD (e2 addD (eVarB 2) (eC (.int 1))) (eC (.int 69621)))) eNil)) (eC (.int 2147483647))))
      (sSeq (sSet 5 (e2 modD (e1 intD (eCons (e2 addD (e2 addD (e2 mulD (eVarB 5) (eC (.int 16807))) (e2 mulD (eC (.int 11)) (eVarB 2))) (eC (.int 5))) eNil)) (eC (.int 2147483629))))
      (sSeq (sApp 1 (e2 modD (e1 intD (eCons (eVarB 5) eNil)) (eC (.int 65536))))
      (sApp 1 (e2 modD (e1 intD (eCons (e2 divD (eVarB 5) (eC (.int 65536))) eNil)) (eC (.int 32768)))))))))
    I (rngL 0 ns.length) 0 _ start (by
    rintro j dd ρ hj ⟨ds, a, b, c, d, rfl, hl, hb⟩
    rw [rngL_0, List.getElem?_map] at hj
    obtain ⟨j', hj', rfl⟩ := Option.map_eq_some_iff.mp hj
    have hjl : j' < ns.length := by
      have := List.mem_of_getElem? hj'
      simpa using this
    have hjj : j' = j := by
      have h2 := List.getElem?_eq_some_iff.mp hj'
      obtain ⟨h3, h4⟩ := h2
      simpa using h4.symm
    subst hjj
    obtain ⟨x, hx⟩ : ∃ x, ns[j']? = some x := ⟨_, List.getElem?_eq_getElem hjl⟩
    have hat : atI ns (j' : Int) = some x := by rw [Pf.atI_nat, hx]
    have hlen : ds.length < 16777200 := by omega
    refine ⟨[.val (scr ns), .own (ds.map .int), .val (.int (j' : Int)), b, c, d], ?_⟩
    by_cases hbig : (1000000000000000000 : Int) ≤ x.natAbs
    · -- digits
      let J : Nat → Ro → Prop := fun i ρ => ∃ (es : List Int) (r : Int) (c : Sl), ρ = [.val (scr ns), .own (es.map .int), .val (.int (j' : Int)), .val (.int r), c, d] ∧ es.length ≤ ds.length + i ∧ ∀ x ∈ es, 0 ≤ x ∧ x < 65536
      obtain ⟨ρ2, g1, es, r, c', rfl, g2, g3⟩ := forF_inv (g := gSet 4) (b := sIf (eTb (e2 gtD (eVarB 3) (eC (.int 0))))
        (sSeq (sApp 1 (e2 modD (e1 intD (eCons (eVarB 3) eNil)) (eC (.int 65536)))) (sSet 3 (e2 divD (eVarB 3) (eC (.int 65536))))) (sPass)) J (rngL 0 60) 0
        [.val (scr ns), .own (ds.map .int), .val (.int (j' : Int)), .val (.int x.natAbs), c, d] ⟨ds, _, _, rfl, by omega, hb⟩ (by
        rintro i dd ρ hi ⟨es, r, c, rfl, g2, g3⟩
        have hi60 : i < 60 := by
          have := (rngL_get hi).1
          exact this
        refine ⟨[.val (scr ns), .own (es.map .int), .val (.int (j' : Int)), .val (.int r), .val dd, d], ?_⟩
        by_cases hr : 0 < r
        · refine ⟨[.val (scr ns), .own ((es ++ [r % 65536]).map .int), .val (.int (j' : Int)), .val (.int (r / 65536)), .val dd, d], by simp, .inl ?_, es ++ [r % 65536], _, _, rfl, by simp; omega, fun y hy => ?_⟩
          · have hes : es.length < 16777216 := by omega
            simp [hr, he3, hes]
          · rcases List.mem_append.mp hy with hy | hy
            · exact g3 y hy
            · rw [List.mem_singleton.mp hy]; exact hmod _
        · refine ⟨[.val (scr ns), .own (es.map .int), .val (.int (j' : Int)), .val (.int r), .val dd, d], by simp, .inl ?_, es, _, _, rfl, by omega, g3⟩
          simp [hr])
      rw [rngL_length] at g2
      refine ⟨[.val (scr ns), .own (es.map .int), .val (.int (j' : Int)), .val (.int r), c', d], by simp, .inl ?_, es, _, _, _, _, rfl, by omega, g3⟩
      simp [hat, hpow, hbig]
      exact g1
    · -- mixed
      have hx18 : x.natAbs < 2 ^ 60 := by
        omega
      let s1 : Int := ((x.natAbs : Int) * 48271 + ((j' : Int) + 1) * 69621) % 2147483647
      have hs1 : 0 ≤ s1 ∧ s1 < 2147483647 := ⟨Int.emod_nonneg _ (by decide), Int.emod_lt_of_pos _ (by decide)⟩
      let s2 : Int := (s1 * 16807 + 11 * (j' : Int) + 5) % 2147483629
      have o1 : okMul (x.natAbs : Int) 48271 = true := okMul_of (k := 60) (l := 16) (by simpa using hx18) (by decide)
      have o2 : okMul ((j' : Int) + 1) 69621 = true := okMul_of (k := 10) (l := 17) (by omega) (by decide)
      have o3 : okMul s1 16807 = true := okMul_of (k := 31) (l := 15) (by omega) (by decide)
      have o4 : okMul 11 (j' : Int) = true := okMul_of (k := 4) (l := 10) (by decide) (by omega)
      have e1' : modD (.int ((x.natAbs : Int) * 48271 + ((j' : Int) + 1) * 69621)) (.int 2147483647) = some (.int s1) := modD_int (by decide)
      have e2' : modD (.int (s1 * 16807 + 11 * (j' : Int) + 5)) (.int 2147483629) = some (.int s2) := modD_int (by decide)
      have h1 : ds.length < 16777216 := by omega
      have h2 : ds.length + 1 < 16777216 := by omega
      refine ⟨[.val (scr ns), .own ((ds ++ [s2 % 65536] ++ [(s2 / 65536) % 32768]).map .int), .val (.int (j' : Int)), .val (.int x.natAbs), c, .val (.int s2)], by simp, .inl ?_, ds ++ [s2 % 65536] ++ [(s2 / 65536) % 32768], _, _, _, _, rfl, by simp; omega, fun y hy => ?_⟩
      · simp [hat, hpow, hbig, mulD_int o1, mulD_int o2, mulD_int o3, mulD_int o4, e1', e2', he3, h1, h2]
      · rcases List.mem_append.mp hy with hy | hy
        · rcases List.mem_append.mp hy with hy | hy
          · exact hb y hy
          · rw [List.mem_singleton.mp hy]; exact hmod _
        · rw [List.mem_singleton.mp hy]; exact hmod2 _)
  rw [rngL_length] at hl
  refine ⟨ds, ?_, by omega, hb⟩
  simp only [m__law_draws, mDef_eq, sSeq_eq, sSetN_eq, eNil_eq, List.length_singleton, if_true, List.map_cons, List.map_nil, Res.out_ok, sFor_eq]
  have hst : ([Sl.val (scr ns)] ++ List.replicate 5 Sl.un : Ro).set 1 (.own []) = [.val (scr ns), .own [], .un, .un, .un, .un] := rfl
  rw [hst]
  have hrg : e1 rg1 (eCons (e1 min2D (eCons (eC (.int 63)) (eCons (e1 lenD (eCons (eVarB 0) eNil)) eNil))) eNil) [.val (scr ns), .own [], .un, .un, .un, .un] = .ok (rngL 0 ns.length) := by
    simp [hmin]
    rw [rg1_int _ (by omega) (by omega)]
    simp
  rw [Out.seq_nx, sSeq_eq, sFor_eq, hrg, Res.out_ok, h1]
  simp

/-! ### the greatest common part -/
def estep (p : Nat × Nat) : Nat × Nat := if 0 < p.2 then (p.2, p.1 % p.2) else p
def iter : Nat → Nat × Nat → Nat × Nat
  | 0, p => p
  | n + 1, p => estep (iter n p)
theorem iter_succ (n : Nat) (p : Nat × Nat) : iter (n + 1) p = iter n (estep p) := by
  induction n with
  | zero => rfl
  | succ n ih => show estep (iter (n + 1) p) = estep (iter n (estep p)); rw [ih]
theorem estep_gcd (p : Nat × Nat) : Nat.gcd (estep p).1 (estep p).2 = Nat.gcd p.1 p.2 := by
  unfold estep
  split
  · show Nat.gcd p.2 (p.1 % p.2) = _
    rw [Nat.gcd_comm p.1 p.2, Nat.gcd_rec p.2 p.1, Nat.gcd_comm]
  · rfl
theorem iter_gcd (n : Nat) (p : Nat × Nat) : Nat.gcd (iter n p).1 (iter n p).2 = Nat.gcd p.1 p.2 := by
  induction n with
  | zero => rfl
  | succ n ih => show Nat.gcd (estep (iter n p)).1 (estep (iter n p)).2 = _; rw [estep_gcd, ih]
theorem iter_zero {p : Nat × Nat} (h : p.2 = 0) : ∀ n, iter n p = p
  | 0 => rfl
  | n + 1 => by show estep (iter n p) = p; rw [iter_zero h n]; unfold estep; rw [if_neg (by omega)]
theorem mod_half {b r : Nat} (h : r < b) (h0 : 0 < r) : 2 * (b % r) < b := by
  by_cases c : 2 * r ≤ b
  · have := Nat.mod_lt b h0; omega
  · have : b % r = b - r := by
      rw [Nat.mod_eq_sub_mod (Nat.le_of_lt h), Nat.mod_eq_of_lt (by omega)]
    omega
theorem two_steps (p : Nat × Nat) : 2 * (estep (estep p)).2 < p.2 ∨ (estep (estep p)).2 = 0 := by
  unfold estep
  by_cases h : 0 < p.2
  · rw [if_pos h]
    by_cases h2 : 0 < p.1 % p.2
    · left
      simp only [h2, if_true]
      exact mod_half (Nat.mod_lt _ h) h2
    · right
      simp only [h2, if_false]
      omega
  · rw [if_neg h, if_neg h]
    right; omega
theorem iter_done : ∀ (k : Nat) (p : Nat × Nat) (n : Nat), p.2 < 2 ^ k → 2 * k ≤ n → (iter n p).2 = 0
  | 0, p, n, h, _ => by rw [iter_zero (by simpa using h)]; simpa using h
  | k + 1, p, n, h, hn => by
    obtain ⟨m, rfl⟩ : ∃ m, n = m + 2 := ⟨n - 2, by omega⟩
    rw [iter_succ, iter_succ]
    refine iter_done k _ m ?_ (by omega)
    have hpos : 0 < 2 ^ k := Nat.pow_pos (by decide)
    rcases two_steps p with h2 | h2
    · rw [Nat.pow_succ] at h; omega
    · omega
theorem iter_eq {p : Nat × Nat} {k n : Nat} (h : p.2 < 2 ^ k) (hn : 2 * k ≤ n) : iter n p = (Nat.gcd p.1 p.2, 0) := by
  have h1 := iter_done k p n h hn
  have h2 := iter_gcd n p
  rw [h1, Nat.gcd_zero_right] at h2
  exact Prod.ext h2 h1
theorem lcommon_ok (a b : Int) (hb : b.natAbs < 2 ^ 200) : m__law_common [.int a, .int b] = .ok (.int (max 1 (Int.gcd a b))) := by
  let I : Nat → Ro → Prop := fun i ρ => ∃ (c : Sl), ρ = [.val (.int a), .val (.int b), .val (.int ((iter i (a.natAbs, b.natAbs)).1 : Nat)), .val (.int ((iter i (a.natAbs, b.natAbs)).2 : Nat)), c]
  obtain ⟨ρ', h1, c, rfl⟩ := forF_inv (g := gSet 4) (b := sIf (eTb (e2 gtD (eVarB 3) (eC (.int 0))))
      (sParM [2, 3] (mVal (eVar 3) (mVal (e2 modD (e1 intD (eCons (eVarB 2) eNil)) (eVarB 3)) (mNil)))) (sPass)) I (rngL 0 400) 0 [.val (.int a), .val (.int b), .val (.int a.natAbs), .val (.int b.natAbs), .un] ⟨_, rfl⟩ (by
    rintro j d ρ hj ⟨c, rfl⟩
    generalize hp : iter (0 + j) (a.natAbs, b.natAbs) = p
    refine ⟨[.val (.int a), .val (.int b), .val (.int (p.1 : Nat)), .val (.int (p.2 : Nat)), .val d], [.val (.int a), .val (.int b), .val (.int ((estep p).1 : Nat)), .val (.int ((estep p).2 : Nat)), .val d], rfl, .inl ?_, _, by rw [← hp]; rfl⟩
    by_cases h : 0 < p.2
    · have h' : (0 : Int) < (p.2 : Int) := by omega
      have e : estep p = (p.2, p.1 % p.2) := if_pos h
      simp [h, modD_int h', e]
    · have e : estep p = p := if_neg h
      simp [h, e])
  have hd : iter 400 (a.natAbs, b.natAbs) = (Nat.gcd a.natAbs b.natAbs, 0) := iter_eq (k := 200) hb (by decide)
  rw [rngL_length, Nat.zero_add, hd] at h1
  have hr : rg1 [.int 400] = some (rngL 0 400) := rg1_int 400 (by decide) (by decide)
  simp [m__law_common, hr, h1]
  rfl
theorem common_loop : ∀ (k : Nat) (x y n : Nat) (A B : Sl), y < 2 ^ k → 2 * k + 1 ≤ n →
    whF (eTb (e2 gtD (eVarB 3) (eC (.int 0)))) (sParM [2, 3] (mVal (eVar 3) (mVal (e2 modD (eVarB 2) (eVarB 3)) (mNil)))) n [A, B, .val (.int (x : Nat)), .val (.int (y : Nat))] = .nx [A, B, .val (.int (Nat.gcd x y : Nat)), .val (.int 0)] := by
  have one : ∀ (n x y : Nat) (A B : Sl), whF (eTb (e2 gtD (eVarB 3) (eC (.int 0)))) (sParM [2, 3] (mVal (eVar 3) (mVal (e2 modD (eVarB 2) (eVarB 3)) (mNil)))) (n + 1) [A, B, .val (.int (x : Nat)), .val (.int (y : Nat))] =
      if 0 < y then whF (eTb (e2 gtD (eVarB 3) (eC (.int 0)))) (sParM [2, 3] (mVal (eVar 3) (mVal (e2 modD (eVarB 2) (eVarB 3)) (mNil)))) n [A, B, .val (.int (y : Nat)), .val (.int (x % y : Nat))] else .nx [A, B, .val (.int (x : Nat)), .val (.int (y : Nat))] := by
    intro n x y A B
    rw [whF]
    by_cases h : 0 < y
    · have h' : (0 : Int) < (y : Int) := by omega
      simp [h, modD_int h']
    · simp [h]
  intro k
  induction k with
  | zero =>
    intro x y n A B h hn
    obtain ⟨m, rfl⟩ : ∃ m, n = m + 1 := ⟨n - 1, by omega⟩
    have : y = 0 := by simpa using h
    subst this
    rw [one, if_neg (by decide), Nat.gcd_zero_right]
    rfl
  | succ k ih =>
    intro x y n A B h hn
    obtain ⟨m, rfl⟩ : ∃ m, n = m + 1 + 1 := ⟨n - 2, by omega⟩
    have hpos : 0 < 2 ^ k := Nat.pow_pos (by decide)
    rw [Nat.pow_succ] at h
    rw [one]
    by_cases h0 : 0 < y
    · rw [if_pos h0, one]
      by_cases h1 : 0 < x % y
      · rw [if_pos h1, ih _ _ _ _ _ (by have := mod_half (Nat.mod_lt x h0) h1; omega) (by omega)]
        have g : Nat.gcd (x % y) (y % (x % y)) = Nat.gcd x y := by
          rw [Nat.gcd_comm (x % y), ← Nat.gcd_rec, ← Nat.gcd_rec, Nat.gcd_comm]
        rw [g]
      · rw [if_neg h1]
        have e : x % y = 0 := by omega
        have g : Nat.gcd x y = y := by rw [Nat.gcd_comm, Nat.gcd_rec, e, Nat.gcd_zero_left]
        rw [e, g]
        rfl
    · have : y = 0 := by omega
      subst this
      rw [if_neg (by decide), Nat.gcd_zero_right]
      rfl
theorem common_ok (a b : Int) (hb : b.natAbs < 2 ^ 200) : m_common [.int a, .int b] = .ok (.int (Int.gcd a b)) := by
  have h := common_loop 200 a.natAbs b.natAbs 100000 (.val (.int a)) (.val (.int b)) hb (by decide)
  have e : m_common [.int a, .int b] = outR ((whF (eTb (e2 gtD (eVarB 3) (eC (.int 0)))) (sParM [2, 3] (mVal (eVar 3) (mVal (e2 modD (eVarB 2) (eVarB 3)) (mNil)))) 100000 [.val (.int a), .val (.int b), .val (.int (a.natAbs : Nat)), .val (.int (b.natAbs : Nat))]).seq (sRet (eVar 2))) := by
    simp only [m_common, mDef_eq, sSeq_eq, sWhile_eq]
    simp
  rw [e, h]
  simp
  rfl

/-! ### fractions in lowest terms -/
def low (n d : Int) : Int × Int := (n / (Int.gcd n d : Int), d / (Int.gcd n d : Int))
theorem gcd_pos {n d : Int} (h : 0 < d) : 0 < (Int.gcd n d : Int) := by
  have : Int.gcd n d ≠ 0 := fun e => by
    have := (Int.gcd_eq_zero_iff.mp e).2
    omega
  omega
theorem gcd_le {n d : Int} (h : 0 < d) : (Int.gcd n d : Int) ≤ d := Int.le_of_dvd h (Int.gcd_dvd_right ..)
theorem natAbs_small {a : Int} {k : Nat} (h0 : 0 ≤ a) (h : a < 2 ^ k) : a.natAbs < 2 ^ k := by
  have e : ((2 ^ k : Nat) : Int) = (2 : Int) ^ k := by simp
  omega
theorem llow_ok (n d : Int) (hd : 0 < d) (hb : d < 2 ^ 200) : m__law_low [.int n, .int d] = .ok (frD (low n d)) := by
  have hdb := natAbs_small (Int.le_of_lt hd) hb
  have hg := gcd_pos (n := n) hd
  have hgl := gcd_le (n := n) hd
  have hgb : (Int.gcd n d : Int) < 2 ^ 200 := Int.lt_of_le_of_lt hgl hb
  have hgn := natAbs_small (Int.le_of_lt hg) hgb
  have hc := lcommon_ok n d hdb
  have hm : max 1 (Int.gcd n d : Int) = Int.gcd n d := by omega
  rw [hm] at hc
  have hnd : ¬ d < 0 := by omega
  have o : okMul (Int.gcd n d : Int) 1 = true := okMul_of (k := 200) (l := 1) hgn (by decide)
  have e3 : ∀ z : Int, divD (.int z) (.int (Int.gcd n d)) = some (.int (z / Int.gcd n d)) := fun z => divD_int hg (Nat.lt_of_lt_of_le (log_lt hgn (by decide)) (by decide))
  simp [m__law_low, hc, hnd, mulD_int o, e3, low]
theorem plain_ok (n d : Int) (hd : 0 < d) (hb : d < 2 ^ 200) : m_plain [.int n, .int d] = .ok (frD (low n d)) := by
  have hdb := natAbs_small (Int.le_of_lt hd) hb
  have hg := gcd_pos (n := n) hd
  have hgl := gcd_le (n := n) hd
  have hgb : (Int.gcd n d : Int) < 2 ^ 200 := Int.lt_of_le_of_lt hgl hb
  have hgn := natAbs_small (Int.le_of_lt hg) hgb
  have hc := common_ok n d hdb
  have e3 : ∀ z : Int, divD (.int z) (.int (Int.gcd n d)) = some (.int (z / Int.gcd n d)) := fun z => divD_int hg (Nat.lt_of_lt_of_le (log_lt hgn (by decide)) (by decide))
  simp [m_plain, hc, e3, low]
theorem ladd_ok (p q : Int × Int) (h1 : okMul p.1 q.2 = true) (h2 : okMul q.1 p.2 = true) (h3 : okMul p.2 q.2 = true) (hd : 0 < p.2 * q.2) (hb : p.2 * q.2 < 2 ^ 200) :
    m__law_add [frD p, frD q] = .ok (frD (low (p.1 * q.2 + q.1 * p.2) (p.2 * q.2))) := by
  have := llow_ok (p.1 * q.2 + q.1 * p.2) (p.2 * q.2) hd hb
  simp [m__law_add, mulD_int h1, mulD_int h2, mulD_int h3, this]
theorem ltimes_ok (p q : Int × Int) (h1 : okMul p.1 q.1 = true) (h3 : okMul p.2 q.2 = true) (hd : 0 < p.2 * q.2) (hb : p.2 * q.2 < 2 ^ 200) :
    m__law_times [frD p, frD q] = .ok (frD (low (p.1 * q.1) (p.2 * q.2))) := by
  have := llow_ok (p.1 * q.1) (p.2 * q.2) hd hb
  simp [m__law_times, mulD_int h1, mulD_int h3, this]
/-! ### what fractions are worth -/
theorem low_den {n d : Int} (h : 0 < d) : 0 < (low n d).2 ∧ (low n d).2 ≤ d := by
  have hg := gcd_pos (n := n) h
  have hd : (Int.gcd n d : Int) ∣ d := Int.gcd_dvd_right ..
  unfold low
  refine ⟨Int.ediv_pos_of_pos_of_dvd h (Int.le_of_lt hg) hd, ?_⟩
  exact Int.ediv_le_self _ (Int.le_of_lt h)
theorem low_val {n d : Int} (h : 0 < d) : (low n d).1 * d = n * (low n d).2 := by
  have hg := gcd_pos (n := n) h
  have h1 : (Int.gcd n d : Int) ∣ n := Int.gcd_dvd_left ..
  have h2 : (Int.gcd n d : Int) ∣ d := Int.gcd_dvd_right ..
  unfold low
  obtain ⟨a, ha⟩ := h1
  obtain ⟨b, hb⟩ := h2
  generalize (Int.gcd n d : Int) = g at *
  subst ha hb
  have e1 : g * a / g = a := Int.mul_ediv_cancel_left _ (by omega)
  have e2 : g * b / g = b := Int.mul_ediv_cancel_left _ (by omega)
  simp only [e1, e2]
  grind
theorem low_num {n d : Int} (h : 0 < d) : (low n d).1.natAbs ≤ n.natAbs := by
  have h1 : (Int.gcd n d : Int) ∣ n := Int.gcd_dvd_left ..
  have hg := gcd_pos (n := n) h
  unfold low
  obtain ⟨a, ha⟩ := h1
  generalize (Int.gcd n d : Int) = g at *
  subst ha
  have e1 : g * a / g = a := Int.mul_ediv_cancel_left _ (by omega)
  simp only [e1, Int.natAbs_mul]
  exact Nat.le_mul_of_pos_left _ (by omega)
theorem low_scale (n d k : Int) (hk : 0 < k) (hd : 0 < d) : low (n * k) (d * k) = low n d := by
  unfold low
  have e : (Int.gcd (n * k) (d * k) : Int) = Int.gcd n d * k := by
    rw [Int.gcd_mul_right]
    have : (k.natAbs : Int) = k := by omega
    rw [Int.natCast_mul, this]
  rw [e, Int.mul_ediv_mul_of_pos_left _ _ hk, Int.mul_ediv_mul_of_pos_left _ _ hk]
theorem low_eq {n d n' d' : Int} (h : 0 < d) (h' : 0 < d') (e : n * d' = n' * d) : low n d = low n' d' := by
  rw [← low_scale n d d' h' h, ← low_scale n' d' d h h', e, Int.mul_comm d' d]
theorem low_iff {n d n' d' : Int} (h : 0 < d) (h' : 0 < d') : low n d = low n' d' ↔ n * d' = n' * d := by
  refine ⟨fun e => ?_, low_eq h h'⟩
  have v1 := low_val (n := n) h
  have v2 := low_val (n := n') h'
  have p1 := (low_den (n := n') h').1
  rw [e] at v1
  generalize (low n' d').1 = a at *
  generalize (low n' d').2 = b at *
  have : (n * d') * b = (n' * d) * b := by grind
  exact Int.eq_of_mul_eq_mul_right (by omega) this
theorem low_lt {n d n' d' : Int} (h : 0 < d) (h' : 0 < d') : (low n d).1 * (low n' d').2 < (low n' d').1 * (low n d).2 ↔ n * d' < n' * d := by
  have v1 := low_val (n := n) h
  have v2 := low_val (n := n') h'
  have p1 := (low_den (n := n) h).1
  have p2 := (low_den (n := n') h').1
  generalize (low n d).1 = a at *
  generalize (low n d).2 = b at *
  generalize (low n' d').1 = a' at *
  generalize (low n' d').2 = b' at *
  have e1 : (a * b') * (d * d') = (n * d') * (b * b') := by grind
  have e2 : (a' * b) * (d * d') = (n' * d) * (b * b') := by grind
  have q1 : 0 < d * d' := Int.mul_pos h h'
  have q2 : 0 < b * b' := Int.mul_pos p1 p2
  constructor
  · intro hl
    have := Int.mul_lt_mul_of_pos_right hl q1
    rw [e1, e2] at this
    exact Int.lt_of_mul_lt_mul_right this (Int.le_of_lt q2)
  · intro hl
    have := Int.mul_lt_mul_of_pos_right hl q2
    rw [← e1, ← e2] at this
    exact Int.lt_of_mul_lt_mul_right this (Int.le_of_lt q1)
theorem low_one (n : Int) : low n 1 = (n, 1) := by
  unfold low
  simp
theorem low_pos {n d : Int} (h : 0 < d) : 0 < (low n d).1 ↔ 0 < n := by
  have v1 := low_val (n := n) h
  have p1 := (low_den (n := n) h).1
  generalize (low n d).1 = a at *
  generalize (low n d).2 = b at *
  constructor
  · intro ha
    have : 0 < a * d := Int.mul_pos ha h
    rw [v1] at this
    exact Int.pos_of_mul_pos_left this p1 
  · intro hn
    have : 0 < n * b := Int.mul_pos hn p1
    rw [← v1] at this
    exact Int.pos_of_mul_pos_left this h
end LawC
/-! Ts1: mirrors refined by typed functions: expressions. -/
namespace Pf
open PySem PySem.Spec PyProof.Rows L2

/-! ### encodings -/
abbrev eI (i : Int) : PyData := .int i
abbrev eBo (b : Bool) : PyData := .bool b
abbrev eS (s : Str) : PyData := .str s
def eL {α : Type} (e : α → PyData) (xs : List α) : PyData := .list (xs.map e)
def eT {α : Type} (e : α → PyData) (xs : List α) : PyData := .tuple (xs.map e)
def eP {α β : Type} (e : α → PyData) (f : β → PyData) (p : α × β) : PyData := .tuple [e p.1, f p.2]
def eP3 {α β γ : Type} (e : α → PyData) (f : β → PyData) (g : γ → PyData) (p : α × β × γ) : PyData := .tuple [e p.1, f p.2.1, g p.2.2]
def eP4 {α β γ δ : Type} (e : α → PyData) (f : β → PyData) (g : γ → PyData) (h : δ → PyData) (p : α × β × γ × δ) : PyData := .tuple [e p.1, f p.2.1, g p.2.2.1, h p.2.2.2]
def eP5 {α β γ δ ε : Type} (e : α → PyData) (f : β → PyData) (g : γ → PyData) (h : δ → PyData) (i : ε → PyData) (p : α × β × γ × δ × ε) : PyData := .tuple [e p.1, f p.2.1, g p.2.2.1, h p.2.2.2.1, i p.2.2.2.2]
def eO {α : Type} (e : α → PyData) : Option α → PyData
  | none => .none
  | some a => e a
def eU (_ : Unit) : PyData := .none
abbrev eD (d : PyData) : PyData := d
abbrev eScr (ns : List Int) : PyData := scr ns
abbrev eId {α : Type} (a : α) : α := a
abbrev Pn := List (Option Sl)

/-! ### answers -/
def RR {α β : Type} (r : Res α) (e : α → β) (m : Res β) : Prop := match r with
  | .ok a => m = .ok (e a)
  | .exc c k => m = .exc c k
  | .bad => True
def Res.hush {α : Type} : Res α → Res α
  | .ok a => .ok a
  | _ => .bad
@[simp] theorem Res.hush_ok {α : Type} (a : α) : (Res.ok a).hush = .ok a := rfl
@[simp] theorem Res.hush_exc {α : Type} (c : Str) (k : Int) : (Res.exc c k : Res α).hush = .bad := rfl
@[simp] theorem Res.hush_bad {α : Type} : (Res.bad : Res α).hush = .bad := rfl
theorem Res.assoc {α β γ : Type} (r : Res α) (f : α → Res β) (g : β → Res γ) : (r.bind f).bind g = r.bind fun a => (f a).bind g := by cases r <;> rfl
theorem Res.pure {α : Type} (r : Res α) : (r.bind fun a => .ok a) = r := by cases r <;> rfl
section
variable {α β γ δ : Type}
theorem RR.bind {r : Res α} {m : Res β} {e : α → β} {k : α → Res γ} {k' : β → Res δ} {e' : γ → δ} (h : RR r e m) (hk : ∀ a, RR (k a) e' (k' (e a))) : RR (r.bind k) e' (m.bind k') := by
  cases r with
  | ok a => have h : m = .ok (e a) := h; subst h; exact hk a
  | exc c k => have h : m = .exc c k := h; subst h; rfl
  | bad => trivial
theorem RR.bindO {r : Res α} {m : Res β} {e : α → β} {k : α → Res γ} {k' : β → Option δ} {e' : γ → δ} (h : RR r e m) (hk : ∀ a, RR (k a) e' (ofO (k' (e a)))) : RR (r.bind k) e' (m.bind fun b => ofO (k' b)) := h.bind hk
theorem RR.ok {a : α} {e : α → β} {m : Res β} (h : m = .ok (e a)) : RR (.ok a) e m := h
theorem RR.out {r : Res α} {e : α → β} {m : Res β} {a : α} (h : RR r e m) (hr : r = .ok a) : m = .ok (e a) := by subst hr; exact h
end

/-! ### what is known of the slots -/
def Ag : Pn → Ro → Prop
  | [], [] => True
  | o :: L, s :: ρ => (∀ t, o = some t → s = t) ∧ Ag L ρ
  | _, _ => False
theorem Ag.get : ∀ {L : Pn} {ρ : Ro} {i : Nat} {s : Sl}, Ag L ρ → L[i]? = some (some s) → ρ[i]? = some s
  | [], [], _, _, _, h => by simp at h
  | o :: L, t :: ρ, 0, s, a, h => by
    have h : o = some s := by simpa using h
    rw [a.1 s h]; rfl
  | o :: L, t :: ρ, i + 1, s, a, h => by
    have := Ag.get (i := i) (s := s) a.2 (by simpa using h)
    simpa using this
  | _ :: _, [], _, _, a, _ => a.elim
  | [], _ :: _, _, _, a, _ => a.elim
theorem Ag.set : ∀ {L : Pn} {ρ : Ro} (i : Nat) (s : Sl), Ag L ρ → Ag (L.set i (some s)) (ρ.set i s)
  | [], [], _, _, _ => trivial
  | o :: L, t :: ρ, 0, s, a => ⟨fun u e => by cases e; rfl, a.2⟩
  | o :: L, t :: ρ, i + 1, s, a => ⟨a.1, Ag.set i s a.2⟩
  | _ :: _, [], _, _, a => a.elim
  | [], _ :: _, _, _, a => a.elim
def mk : List Bool → Pn → Pn
  | true :: m, o :: L => o :: mk m L
  | false :: m, _ :: L => none :: mk m L
  | _, L => L
theorem Ag.mk : ∀ {L : Pn} {ρ : Ro} (m : List Bool), Ag L ρ → Ag (Pf.mk m L) ρ
  | [], [], [], _ => trivial
  | [], [], true :: _, _ => trivial
  | [], [], false :: _, _ => trivial
  | o :: L, t :: ρ, [], a => a
  | o :: L, t :: ρ, true :: m, a => ⟨a.1, Ag.mk m a.2⟩
  | o :: L, t :: ρ, false :: m, a => ⟨fun u e => (nomatch e), Ag.mk m a.2⟩
  | _ :: _, [], _, a => a.elim
  | [], _ :: _, _, a => a.elim
def wipeP (L : Pn) : List Nat → Pn
  | [] => L
  | i :: is => (wipeP L is).set i none
theorem Ag.un : ∀ {L : Pn} {ρ : Ro} (i : Nat) (s : Sl), Ag L ρ → Ag (L.set i none) (ρ.set i s)
  | [], [], _, _, _ => trivial
  | o :: L, t :: ρ, 0, s, a => ⟨fun u e => (nomatch e), a.2⟩
  | o :: L, t :: ρ, i + 1, s, a => ⟨a.1, Ag.un i s a.2⟩
  | _ :: _, [], _, _, a => a.elim
  | [], _ :: _, _, _, a => a.elim
theorem Ag.wipe {L : Pn} {ρ : Ro} (a : Ag L ρ) : ∀ is : List Nat, Ag (wipeP L is) (wipeR ρ is)
  | [] => a
  | i :: is => (Ag.wipe a is).un i .un
theorem Ag.len : ∀ {L : Pn} {ρ : Ro}, Ag L ρ → ρ.length = L.length
  | [], [], _ => rfl
  | _ :: L, _ :: ρ, a => by simp [Ag.len a.2]
  | _ :: _, [], a => a.elim
  | [], _ :: _, a => a.elim

/-! ### expressions -/
def TE {α β : Type} (L : Pn) (f : Ro → Res β) (r : Res α) (e : α → β) : Prop := ∀ ρ, Ag L ρ → RR r e (f ρ)
section
variable {α β γ δ ε : Type} {L : Pn}
theorem t_var {i : Nat} {a : α} {e : α → PyData} {r : Res α} (h : L[i]? = some (some (.val (e a)))) (hr : r = .ok a := by first | rfl | (simp only [Res.bind_ok, Res.assoc, Res.pure]; done)) : TE L (eVar i) r e := by
  subst hr; exact fun ρ g => eVar_val (g.get h)
theorem t_varB {i : Nat} {a : α} {e : α → PyData} {r : Res α} (h : L[i]? = some (some (.val (e a)))) (hr : r = .ok a := by first | rfl | (simp only [Res.bind_ok, Res.assoc, Res.pure]; done)) : TE L (eVarB i) r e := by
  subst hr; exact fun ρ g => eVarB_val (g.get h)
theorem t_varO {i : Nat} {a : List α} {e : α → PyData} {r : Res (List α)} (h : L[i]? = some (some (.own (a.map e)))) (hr : r = .ok a := by first | rfl | (simp only [Res.bind_ok, Res.assoc, Res.pure]; done)) : TE L (eVarB i) r (eL e) := by
  subst hr; exact fun ρ g => eVarB_own (g.get h)
theorem t_c {a : α} {e : α → PyData} {d : PyData} {r : Res α} (h : d = e a) (hr : r = .ok a := by first | rfl | (simp only [Res.bind_ok, Res.assoc, Res.pure]; done)) : TE L (eC d) r e := by
  subst hr h; exact fun ρ g => rfl
/-- what a step of one, two takes -/
def Op1 {α β γ δ : Type} (s : β → Option δ) (ea : α → β) (ec : γ → δ) (k : α → Res γ) : Prop := ∀ a, RR (k a) ec (ofO (s (ea a)))
def Op2 {α α' β β' γ δ : Type} (s : α' → β' → Option δ) (ea : α → α') (eb : β → β') (ec : γ → δ) (k : α → β → Res γ) : Prop := ∀ a b, RR (k a b) ec (ofO (s (ea a) (eb b)))
theorem t_e1 {α' γ' : Type} {s : α' → Option γ'} {ea : α → α'} {ec : γ → γ'} {k : α → Res γ} {f : Ro → Res α'} {ra : Res α} {r : Res γ} (op : Op1 s ea ec k) (hf : TE L f ra ea) (hr : r = ra.bind k := by first | rfl | (simp only [Res.bind_ok, Res.assoc, Res.pure]; done)) : TE L (e1 s f) r ec := by
  subst hr; exact fun ρ g => (hf ρ g).bind fun a => op a
theorem t_e2 {α' β' γ' : Type} {s : α' → β' → Option γ'} {ea : α → α'} {eb : β → β'} {ec : γ → γ'} {k : α → β → Res γ} {f : Ro → Res α'} {g : Ro → Res β'} {ra : Res α} {rb : Res β} {r : Res γ} (op : Op2 s ea eb ec k) (hf : TE L f ra ea) (hg : TE L g rb eb) (hr : r = ra.bind fun a => rb.bind fun b => k a b := by first | rfl | (simp only [Res.bind_ok, Res.assoc, Res.pure]; done)) : TE L (e2 s f g) r ec := by
  subst hr; exact fun ρ h => (hf ρ h).bind fun a => (hg ρ h).bind fun b => op a b
theorem cons_bind {f : Ro → Res PyData} {g : Ro → Res (List PyData)} {ρ : Ro} {K : List PyData → Res δ} : ((eCons f g) ρ).bind K = (f ρ).bind fun d => (g ρ).bind fun ds => K (d :: ds) := by
  unfold eCons
  cases f ρ with
  | ok d => cases g ρ <;> rfl
  | exc c k => rfl
  | bad => rfl
theorem nil_bind {ρ : Ro} {K : List PyData → Res δ} : (eNil ρ).bind K = K [] := rfl
theorem t_call1 {A1 : Type} {m : List PyData → Res δ} {s : A1 → Res γ} {ec : γ → δ} {e1 : A1 → PyData} {f1 : Ro → Res PyData} {r1 : Res A1} {r : Res γ} (hm : ∀ a1, RR (s a1) ec (m [e1 a1])) (h1 : TE L f1 r1 e1) (hr : r = r1.bind fun a1 => s a1 := by first | rfl | (simp only [Res.bind_ok, Res.assoc, Res.pure]; done)) : ∀ ρ, Ag L ρ → RR r ec (((eCons f1 eNil) ρ).bind m) := by
  subst hr
  intro ρ h
  simp only [cons_bind, nil_bind]
  exact (h1 ρ h).bind fun a1 => hm a1
theorem t_call2 {A1 A2 : Type} {m : List PyData → Res δ} {s : A1 → A2 → Res γ} {ec : γ → δ} {e1 : A1 → PyData} {e2 : A2 → PyData} {f1 f2 : Ro → Res PyData} {r1 : Res A1} {r2 : Res A2} {r : Res γ} (hm : ∀ a1 a2, RR (s a1 a2) ec (m [e1 a1, e2 a2])) (h1 : TE L f1 r1 e1) (h2 : TE L f2 r2 e2) (hr : r = r1.bind fun a1 => r2.bind fun a2 => s a1 a2 := by first | rfl | (simp only [Res.bind_ok, Res.assoc, Res.pure]; done)) : ∀ ρ, Ag L ρ → RR r ec (((eCons f1 (eCons f2 eNil)) ρ).bind m) := by
  subst hr
  intro ρ h
  simp only [cons_bind, nil_bind]
  exact (h1 ρ h).bind fun a1 => (h2 ρ h).bind fun a2 => hm a1 a2
theorem t_call3 {A1 A2 A3 : Type} {m : List PyData → Res δ} {s : A1 → A2 → A3 → Res γ} {ec : γ → δ} {e1 : A1 → PyData} {e2 : A2 → PyData} {e3 : A3 → PyData} {f1 f2 f3 : Ro → Res PyData} {r1 : Res A1} {r2 : Res A2} {r3 : Res A3} {r : Res γ} (hm : ∀ a1 a2 a3, RR (s a1 a2 a3) ec (m [e1 a1, e2 a2, e3 a3])) (h1 : TE L f1 r1 e1) (h2 : TE L f2 r2 e2) (h3 : TE L f3 r3 e3) (hr : r = r1.bind fun a1 => r2.bind fun a2 => r3.bind fun a3 => s a1 a2 a3 := by first | rfl | (simp only [Res.bind_ok, Res.assoc, Res.pure]; done)) : ∀ ρ, Ag L ρ → RR r ec (((eCons f1 (eCons f2 (eCons f3 eNil))) ρ).bind m) := by
  subst hr
  intro ρ h
  simp only [cons_bind, nil_bind]
  exact (h1 ρ h).bind fun a1 => (h2 ρ h).bind fun a2 => (h3 ρ h).bind fun a3 => hm a1 a2 a3
theorem t_call4 {A1 A2 A3 A4 : Type} {m : List PyData → Res δ} {s : A1 → A2 → A3 → A4 → Res γ} {ec : γ → δ} {e1 : A1 → PyData} {e2 : A2 → PyData} {e3 : A3 → PyData} {e4 : A4 → PyData} {f1 f2 f3 f4 : Ro → Res PyData} {r1 : Res A1} {r2 : Res A2} {r3 : Res A3} {r4 : Res A4} {r : Res γ} (hm : ∀ a1 a2 a3 a4, RR (s a1 a2 a3 a4) ec (m [e1 a1, e2 a2, e3 a3, e4 a4])) (h1 : TE L f1 r1 e1) (h2 : TE L f2 r2 e2) (h3 : TE L f3 r3 e3) (h4 : TE L f4 r4 e4) (hr : r = r1.bind fun a1 => r2.bind fun a2 => r3.bind fun a3 => r4.bind fun a4 => s a1 a2 a3 a4 := by first | rfl | (simp only [Res.bind_ok, Res.assoc, Res.pure]; done)) : ∀ ρ, Ag L ρ → RR r ec (((eCons f1 (eCons f2 (eCons f3 (eCons f4 eNil)))) ρ).bind m) := by
  subst hr
  intro ρ h
  simp only [cons_bind, nil_bind]
  exact (h1 ρ h).bind fun a1 => (h2 ρ h).bind fun a2 => (h3 ρ h).bind fun a3 => (h4 ρ h).bind fun a4 => hm a1 a2 a3 a4
theorem t_call5 {A1 A2 A3 A4 A5 : Type} {m : List PyData → Res δ} {s : A1 → A2 → A3 → A4 → A5 → Res γ} {ec : γ → δ} {e1 : A1 → PyData} {e2 : A2 → PyData} {e3 : A3 → PyData} {e4 : A4 → PyData} {e5 : A5 → PyData} {f1 f2 f3 f4 f5 : Ro → Res PyData} {r1 : Res A1} {r2 : Res A2} {r3 : Res A3} {r4 : Res A4} {r5 : Res A5} {r : Res γ} (hm : ∀ a1 a2 a3 a4 a5, RR (s a1 a2 a3 a4 a5) ec (m [e1 a1, e2 a2, e3 a3, e4 a4, e5 a5])) (h1 : TE L f1 r1 e1) (h2 : TE L f2 r2 e2) (h3 : TE L f3 r3 e3) (h4 : TE L f4 r4 e4) (h5 : TE L f5 r5 e5) (hr : r = r1.bind fun a1 => r2.bind fun a2 => r3.bind fun a3 => r4.bind fun a4 => r5.bind fun a5 => s a1 a2 a3 a4 a5 := by first | rfl | (simp only [Res.bind_ok, Res.assoc, Res.pure]; done)) : ∀ ρ, Ag L ρ → RR r ec (((eCons f1 (eCons f2 (eCons f3 (eCons f4 (eCons f5 eNil))))) ρ).bind m) := by
  subst hr
  intro ρ h
  simp only [cons_bind, nil_bind]
  exact (h1 ρ h).bind fun a1 => (h2 ρ h).bind fun a2 => (h3 ρ h).bind fun a3 => (h4 ρ h).bind fun a4 => (h5 ρ h).bind fun a5 => hm a1 a2 a3 a4 a5
theorem t_call6 {A1 A2 A3 A4 A5 A6 : Type} {m : List PyData → Res δ} {s : A1 → A2 → A3 → A4 → A5 → A6 → Res γ} {ec : γ → δ} {e1 : A1 → PyData} {e2 : A2 → PyData} {e3 : A3 → PyData} {e4 : A4 → PyData} {e5 : A5 → PyData} {e6 : A6 → PyData} {f1 f2 f3 f4 f5 f6 : Ro → Res PyData} {r1 : Res A1} {r2 : Res A2} {r3 : Res A3} {r4 : Res A4} {r5 : Res A5} {r6 : Res A6} {r : Res γ} (hm : ∀ a1 a2 a3 a4 a5 a6, RR (s a1 a2 a3 a4 a5 a6) ec (m [e1 a1, e2 a2, e3 a3, e4 a4, e5 a5, e6 a6])) (h1 : TE L f1 r1 e1) (h2 : TE L f2 r2 e2) (h3 : TE L f3 r3 e3) (h4 : TE L f4 r4 e4) (h5 : TE L f5 r5 e5) (h6 : TE L f6 r6 e6) (hr : r = r1.bind fun a1 => r2.bind fun a2 => r3.bind fun a3 => r4.bind fun a4 => r5.bind fun a5 => r6.bind fun a6 => s a1 a2 a3 a4 a5 a6 := by first | rfl | (simp only [Res.bind_ok, Res.assoc, Res.pure]; done)) : ∀ ρ, Ag L ρ → RR r ec (((eCons f1 (eCons f2 (eCons f3 (eCons f4 (eCons f5 (eCons f6 eNil)))))) ρ).bind m) := by
  subst hr
  intro ρ h
  simp only [cons_bind, nil_bind]
  exact (h1 ρ h).bind fun a1 => (h2 ρ h).bind fun a2 => (h3 ρ h).bind fun a3 => (h4 ρ h).bind fun a4 => (h5 ρ h).bind fun a5 => (h6 ρ h).bind fun a6 => hm a1 a2 a3 a4 a5 a6
theorem t_call7 {A1 A2 A3 A4 A5 A6 A7 : Type} {m : List PyData → Res δ} {s : A1 → A2 → A3 → A4 → A5 → A6 → A7 → Res γ} {ec : γ → δ} {e1 : A1 → PyData} {e2 : A2 → PyData} {e3 : A3 → PyData} {e4 : A4 → PyData} {e5 : A5 → PyData} {e6 : A6 → PyData} {e7 : A7 → PyData} {f1 f2 f3 f4 f5 f6 f7 : Ro → Res PyData} {r1 : Res A1} {r2 : Res A2} {r3 : Res A3} {r4 : Res A4} {r5 : Res A5} {r6 : Res A6} {r7 : Res A7} {r : Res γ} (hm : ∀ a1 a2 a3 a4 a5 a6 a7, RR (s a1 a2 a3 a4 a5 a6 a7) ec (m [e1 a1, e2 a2, e3 a3, e4 a4, e5 a5, e6 a6, e7 a7])) (h1 : TE L f1 r1 e1) (h2 : TE L f2 r2 e2) (h3 : TE L f3 r3 e3) (h4 : TE L f4 r4 e4) (h5 : TE L f5 r5 e5) (h6 : TE L f6 r6 e6) (h7 : TE L f7 r7 e7) (hr : r = r1.bind fun a1 => r2.bind fun a2 => r3.bind fun a3 => r4.bind fun a4 => r5.bind fun a5 => r6.bind fun a6 => r7.bind fun a7 => s a1 a2 a3 a4 a5 a6 a7 := by first | rfl | (simp only [Res.bind_ok, Res.assoc, Res.pure]; done)) : ∀ ρ, Ag L ρ → RR r ec (((eCons f1 (eCons f2 (eCons f3 (eCons f4 (eCons f5 (eCons f6 (eCons f7 eNil))))))) ρ).bind m) := by
  subst hr
  intro ρ h
  simp only [cons_bind, nil_bind]
  exact (h1 ρ h).bind fun a1 => (h2 ρ h).bind fun a2 => (h3 ρ h).bind fun a3 => (h4 ρ h).bind fun a4 => (h5 ρ h).bind fun a5 => (h6 ρ h).bind fun a6 => (h7 ρ h).bind fun a7 => hm a1 a2 a3 a4 a5 a6 a7
theorem t_call8 {A1 A2 A3 A4 A5 A6 A7 A8 : Type} {m : List PyData → Res δ} {s : A1 → A2 → A3 → A4 → A5 → A6 → A7 → A8 → Res γ} {ec : γ → δ} {e1 : A1 → PyData} {e2 : A2 → PyData} {e3 : A3 → PyData} {e4 : A4 → PyData} {e5 : A5 → PyData} {e6 : A6 → PyData} {e7 : A7 → PyData} {e8 : A8 → PyData} {f1 f2 f3 f4 f5 f6 f7 f8 : Ro → Res PyData} {r1 : Res A1} {r2 : Res A2} {r3 : Res A3} {r4 : Res A4} {r5 : Res A5} {r6 : Res A6} {r7 : Res A7} {r8 : Res A8} {r : Res γ} (hm : ∀ a1 a2 a3 a4 a5 a6 a7 a8, RR (s a1 a2 a3 a4 a5 a6 a7 a8) ec (m [e1 a1, e2 a2, e3 a3, e4 a4, e5 a5, e6 a6, e7 a7, e8 a8])) (h1 : TE L f1 r1 e1) (h2 : TE L f2 r2 e2) (h3 : TE L f3 r3 e3) (h4 : TE L f4 r4 e4) (h5 : TE L f5 r5 e5) (h6 : TE L f6 r6 e6) (h7 : TE L f7 r7 e7) (h8 : TE L f8 r8 e8) (hr : r = r1.bind fun a1 => r2.bind fun a2 => r3.bind fun a3 => r4.bind fun a4 => r5.bind fun a5 => r6.bind fun a6 => r7.bind fun a7 => r8.bind fun a8 => s a1 a2 a3 a4 a5 a6 a7 a8 := by first | rfl | (simp only [Res.bind_ok, Res.assoc, Res.pure]; done)) : ∀ ρ, Ag L ρ → RR r ec (((eCons f1 (eCons f2 (eCons f3 (eCons f4 (eCons f5 (eCons f6 (eCons f7 (eCons f8 eNil)))))))) ρ).bind m) := by
  subst hr
  intro ρ h
  simp only [cons_bind, nil_bind]
  exact (h1 ρ h).bind fun a1 => (h2 ρ h).bind fun a2 => (h3 ρ h).bind fun a3 => (h4 ρ h).bind fun a4 => (h5 ρ h).bind fun a5 => (h6 ρ h).bind fun a6 => (h7 ρ h).bind fun a7 => (h8 ρ h).bind fun a8 => hm a1 a2 a3 a4 a5 a6 a7 a8
theorem t_call9 {A1 A2 A3 A4 A5 A6 A7 A8 A9 : Type} {m : List PyData → Res δ} {s : A1 → A2 → A3 → A4 → A5 → A6 → A7 → A8 → A9 → Res γ} {ec : γ → δ} {e1 : A1 → PyData} {e2 : A2 → PyData} {e3 : A3 → PyData} {e4 : A4 → PyData} {e5 : A5 → PyData} {e6 : A6 → PyData} {e7 : A7 → PyData} {e8 : A8 → PyData} {e9 : A9 → PyData} {f1 f2 f3 f4 f5 f6 f7 f8 f9 : Ro → Res PyData} {r1 : Res A1} {r2 : Res A2} {r3 : Res A3} {r4 : Res A4} {r5 : Res A5} {r6 : Res A6} {r7 : Res A7} {r8 : Res A8} {r9 : Res A9} {r : Res γ} (hm : ∀ a1 a2 a3 a4 a5 a6 a7 a8 a9, RR (s a1 a2 a3 a4 a5 a6 a7 a8 a9) ec (m [e1 a1, e2 a2, e3 a3, e4 a4, e5 a5, e6 a6, e7 a7, e8 a8, e9 a9])) (h1 : TE L f1 r1 e1) (h2 : TE L f2 r2 e2) (h3 : TE L f3 r3 e3) (h4 : TE L f4 r4 e4) (h5 : TE L f5 r5 e5) (h6 : TE L f6 r6 e6) (h7 : TE L f7 r7 e7) (h8 : TE L f8 r8 e8) (h9 : TE L f9 r9 e9) (hr : r = r1.bind fun a1 => r2.bind fun a2 => r3.bind fun a3 => r4.bind fun a4 => r5.bind fun a5 => r6.bind fun a6 => r7.bind fun a7 => r8.bind fun a8 => r9.bind fun a9 => s a1 a2 a3 a4 a5 a6 a7 a8 a9 := by first | rfl | (simp only [Res.bind_ok, Res.assoc, Res.pure]; done)) : ∀ ρ, Ag L ρ → RR r ec (((eCons f1 (eCons f2 (eCons f3 (eCons f4 (eCons f5 (eCons f6 (eCons f7 (eCons f8 (eCons f9 eNil))))))))) ρ).bind m) := by
  subst hr
  intro ρ h
  simp only [cons_bind, nil_bind]
  exact (h1 ρ h).bind fun a1 => (h2 ρ h).bind fun a2 => (h3 ρ h).bind fun a3 => (h4 ρ h).bind fun a4 => (h5 ρ h).bind fun a5 => (h6 ρ h).bind fun a6 => (h7 ρ h).bind fun a7 => (h8 ρ h).bind fun a8 => (h9 ρ h).bind fun a9 => hm a1 a2 a3 a4 a5 a6 a7 a8 a9
theorem t_call10 {A1 A2 A3 A4 A5 A6 A7 A8 A9 A10 : Type} {m : List PyData → Res δ} {s : A1 → A2 → A3 → A4 → A5 → A6 → A7 → A8 → A9 → A10 → Res γ} {ec : γ → δ} {e1 : A1 → PyData} {e2 : A2 → PyData} {e3 : A3 → PyData} {e4 : A4 → PyData} {e5 : A5 → PyData} {e6 : A6 → PyData} {e7 : A7 → PyData} {e8 : A8 → PyData} {e9 : A9 → PyData} {e10 : A10 → PyData} {f1 f2 f3 f4 f5 f6 f7 f8 f9 f10 : Ro → Res PyData} {r1 : Res A1} {r2 : Res A2} {r3 : Res A3} {r4 : Res A4} {r5 : Res A5} {r6 : Res A6} {r7 : Res A7} {r8 : Res A8} {r9 : Res A9} {r10 : Res A10} {r : Res γ} (hm : ∀ a1 a2 a3 a4 a5 a6 a7 a8 a9 a10, RR (s a1 a2 a3 a4 a5 a6 a7 a8 a9 a10) ec (m [e1 a1, e2 a2, e3 a3, e4 a4, e5 a5, e6 a6, e7 a7, e8 a8, e9 a9, e10 a10])) (h1 : TE L f1 r1 e1) (h2 : TE L f2 r2 e2) (h3 : TE L f3 r3 e3) (h4 : TE L f4 r4 e4) (h5 : TE L f5 r5 e5) (h6 : TE L f6 r6 e6) (h7 : TE L f7 r7 e7) (h8 : TE L f8 r8 e8) (h9 : TE L f9 r9 e9) (h10 : TE L f10 r10 e10) (hr : r = r1.bind fun a1 => r2.bind fun a2 => r3.bind fun a3 => r4.bind fun a4 => r5.bind fun a5 => r6.bind fun a6 => r7.bind fun a7 => r8.bind fun a8 => r9.bind fun a9 => r10.bind fun a10 => s a1 a2 a3 a4 a5 a6 a7 a8 a9 a10 := by first | rfl | (simp only [Res.bind_ok, Res.assoc, Res.pure]; done)) : ∀ ρ, Ag L ρ → RR r ec (((eCons f1 (eCons f2 (eCons f3 (eCons f4 (eCons f5 (eCons f6 (eCons f7 (eCons f8 (eCons f9 (eCons f10 eNil)))))))))) ρ).bind m) := by
  subst hr
  intro ρ h
  simp only [cons_bind, nil_bind]
  exact (h1 ρ h).bind fun a1 => (h2 ρ h).bind fun a2 => (h3 ρ h).bind fun a3 => (h4 ρ h).bind fun a4 => (h5 ρ h).bind fun a5 => (h6 ρ h).bind fun a6 => (h7 ρ h).bind fun a7 => (h8 ρ h).bind fun a8 => (h9 ρ h).bind fun a9 => (h10 ρ h).bind fun a10 => hm a1 a2 a3 a4 a5 a6 a7 a8 a9 a10

def B1 {α γ δ : Type} (s : List PyData → Option δ) (ea : α → PyData) (ec : γ → δ) (k : α → Res γ) : Prop := ∀ a, RR (k a) ec (ofO (s [ea a]))
def B2 {α β γ δ : Type} (s : List PyData → Option δ) (ea : α → PyData) (eb : β → PyData) (ec : γ → δ) (k : α → β → Res γ) : Prop := ∀ a b, RR (k a b) ec (ofO (s [ea a, eb b]))
theorem t_b1 {s : List PyData → Option δ} {ea : α → PyData} {ec : γ → δ} {k : α → Res γ} {f : Ro → Res PyData} {ra : Res α} {r : Res γ} (op : B1 s ea ec k) (hf : TE L f ra ea) (hr : r = ra.bind k := by first | rfl | (simp only [Res.bind_ok, Res.assoc, Res.pure]; done)) : TE L (e1 s (eCons f eNil)) r ec := t_call1 (m := fun ds => ofO (s ds)) op hf hr
theorem t_b2 {s : List PyData → Option δ} {ea : α → PyData} {eb : β → PyData} {ec : γ → δ} {k : α → β → Res γ} {f g : Ro → Res PyData} {ra : Res α} {rb : Res β} {r : Res γ} (op : B2 s ea eb ec k) (hf : TE L f ra ea) (hg : TE L g rb eb) (hr : r = ra.bind fun a => rb.bind fun b => k a b := by first | rfl | (simp only [Res.bind_ok, Res.assoc, Res.pure]; done)) : TE L (e1 s (eCons f (eCons g eNil))) r ec := t_call2 (m := fun ds => ofO (s ds)) op hf hg hr
theorem t_tup1 {f : Ro → Res PyData} {ra : Res α} {e : α → PyData} {r : Res (List α)} (hf : TE L f ra e) (hr : r = ra.bind fun a => .ok [a] := by first | rfl | (simp only [Res.bind_ok, Res.assoc, Res.pure]; done)) : TE L (e1 tupD (eCons f eNil)) r (eT e) := t_call1 (m := fun ds => ofO (tupD ds)) (s := fun a => .ok [a]) (e1 := e) (fun _ => rfl) hf hr
theorem t_tup2 {f g : Ro → Res PyData} {ra : Res α} {rb : Res β} {e : α → PyData} {e' : β → PyData} {r : Res (α × β)} (hf : TE L f ra e) (hg : TE L g rb e') (hr : r = ra.bind fun a => rb.bind fun b => .ok (a, b) := by first | rfl | (simp only [Res.bind_ok, Res.assoc, Res.pure]; done)) : TE L (e1 tupD (eCons f (eCons g eNil))) r (eP e e') := t_call2 (m := fun ds => ofO (tupD ds)) (s := fun a b => .ok (a, b)) (e1 := e) (e2 := e') (fun _ _ => rfl) hf hg hr
theorem t_tup3 {f g h : Ro → Res PyData} {ra : Res α} {rb : Res β} {rc : Res γ} {e : α → PyData} {e' : β → PyData} {e'' : γ → PyData} {r : Res (α × β × γ)} (hf : TE L f ra e) (hg : TE L g rb e') (hh : TE L h rc e'') (hr : r = ra.bind fun a => rb.bind fun b => rc.bind fun c => .ok (a, b, c) := by first | rfl | (simp only [Res.bind_ok, Res.assoc, Res.pure]; done)) : TE L (e1 tupD (eCons f (eCons g (eCons h eNil)))) r (eP3 e e' e'') := t_call3 (m := fun ds => ofO (tupD ds)) (s := fun a b c => .ok (a, b, c)) (e1 := e) (e2 := e') (e3 := e'') (fun _ _ _ => rfl) hf hg hh hr
theorem t_tup4 {f g h i : Ro → Res PyData} {ra : Res α} {rb : Res β} {rc : Res γ} {rd : Res δ} {e : α → PyData} {e' : β → PyData} {e'' : γ → PyData} {e3 : δ → PyData} {r : Res (α × β × γ × δ)} (hf : TE L f ra e) (hg : TE L g rb e') (hh : TE L h rc e'') (hi : TE L i rd e3) (hr : r = ra.bind fun a => rb.bind fun b => rc.bind fun c => rd.bind fun d => .ok (a, b, c, d) := by first | rfl | (simp only [Res.bind_ok, Res.assoc, Res.pure]; done)) : TE L (e1 tupD (eCons f (eCons g (eCons h (eCons i eNil))))) r (eP4 e e' e'' e3) := t_call4 (m := fun ds => ofO (tupD ds)) (s := fun a b c d => .ok (a, b, c, d)) (e1 := e) (e2 := e') (e3 := e'') (e4 := e3) (fun _ _ _ _ => rfl) hf hg hh hi hr
/-- rows -/
theorem t_lnil {e : α → PyData} {r : Res (List α)} (hr : r = .ok [] := by first | rfl | (simp only [Res.bind_ok, Res.assoc, Res.pure]; done)) : TE L eNil r (List.map e) := by
  subst hr; exact fun ρ g => rfl
theorem t_lcons {e : α → PyData} {f : Ro → Res PyData} {g : Ro → Res (List PyData)} {ra : Res α} {rb : Res (List α)} {r : Res (List α)} (hf : TE L f ra e) (hg : TE L g rb (List.map e)) (hr : r = ra.bind fun a => rb.bind fun b => .ok (a :: b) := by first | rfl | (simp only [Res.bind_ok, Res.assoc, Res.pure]; done)) : TE L (eCons f g) r (List.map e) := by
  subst hr; exact fun ρ h => (hf ρ h).bind fun a => (hg ρ h).bind fun b => rfl
theorem t_lstar {e : α → PyData} {f : Ro → Res PyData} {g : Ro → Res (List PyData)} {ra : Res (List α)} {rb : Res (List α)} {r : Res (List α)} (hf : TE L f ra (eL e)) (hg : TE L g rb (List.map e)) (hr : r = ra.bind fun a => rb.bind fun b => .ok (a ++ b) := by first | rfl | (simp only [Res.bind_ok, Res.assoc, Res.pure]; done)) : TE L (eStar f g) r (List.map e) := by
  subst hr; exact fun ρ h => (hf ρ h).bind fun a => (hg ρ h).bind fun b => by simp [eL, itL, RR]
theorem t_lstarT {e : α → PyData} {f : Ro → Res PyData} {g : Ro → Res (List PyData)} {ra : Res (List α)} {rb : Res (List α)} {r : Res (List α)} (hf : TE L f ra (eT e)) (hg : TE L g rb (List.map e)) (hr : r = ra.bind fun a => rb.bind fun b => .ok (a ++ b) := by first | rfl | (simp only [Res.bind_ok, Res.assoc, Res.pure]; done)) : TE L (eStar f g) r (List.map e) := by
  subst hr; exact fun ρ h => (hf ρ h).bind fun a => (hg ρ h).bind fun b => by simp [eT, itL, RR]
theorem t_list {e : α → PyData} {f : Ro → Res (List PyData)} {r : Res (List α)} (hf : TE L f r (List.map e)) : TE L (e1 listD f) r (eL e) := fun ρ h => by
  have := hf ρ h
  show RR r (eL e) ((f ρ).bind fun d => ofO (listD d))
  cases r with
  | ok a => have q : f ρ = .ok (a.map e) := this; rw [q]; rfl
  | exc c k => have q : f ρ = .exc c k := this; rw [q]; rfl
  | bad => trivial
theorem t_tupV {e : α → PyData} {f : Ro → Res (List PyData)} {r : Res (List α)} (hf : TE L f r (List.map e)) : TE L (e1 tupD f) r (eT e) := fun ρ h => by
  have := hf ρ h
  show RR r (eT e) ((f ρ).bind fun d => ofO (tupD d))
  cases r with
  | ok a => have q : f ρ = .ok (a.map e) := this; rw [q]; rfl
  | exc c k => have q : f ρ = .exc c k := this; rw [q]; rfl
  | bad => trivial
def lenR (xs : List α) : Res (List α) := if xs.length ≤ 16777216 then .ok xs else .bad
theorem t_lenOk {e : α → PyData} {f : Ro → Res (List PyData)} {ra r : Res (List α)} (hf : TE L f ra (List.map e)) (hr : r = ra.bind lenR := by first | rfl | (simp only [Res.bind_ok, Res.assoc, Res.pure]; done)) : TE L (e1 lenOk f) r (List.map e) := by
  subst hr
  refine fun ρ h => (hf ρ h).bind fun a => ?_
  unfold lenR lenOk
  rw [List.length_map]
  split <;> first | rfl | trivial
/-- calls -/
theorem t_f1 {A1 : Type} {m : List PyData → Res PyData} {s : A1 → Res γ} {ec : γ → PyData} {e1 : A1 → PyData} {f1 : Ro → Res PyData} {r1 : Res A1} {r : Res γ} (hm : ∀ a1, RR (s a1) ec (m [e1 a1])) (h1 : TE L f1 r1 e1) (hr : r = r1.bind fun a1 => s a1 := by first | rfl | (simp only [Res.bind_ok, Res.assoc, Res.pure]; done)) : TE L (eCall m (eCons f1 eNil)) r ec := t_call1 hm h1 hr
theorem t_f2 {A1 A2 : Type} {m : List PyData → Res PyData} {s : A1 → A2 → Res γ} {ec : γ → PyData} {e1 : A1 → PyData} {e2 : A2 → PyData} {f1 f2 : Ro → Res PyData} {r1 : Res A1} {r2 : Res A2} {r : Res γ} (hm : ∀ a1 a2, RR (s a1 a2) ec (m [e1 a1, e2 a2])) (h1 : TE L f1 r1 e1) (h2 : TE L f2 r2 e2) (hr : r = r1.bind fun a1 => r2.bind fun a2 => s a1 a2 := by first | rfl | (simp only [Res.bind_ok, Res.assoc, Res.pure]; done)) : TE L (eCall m (eCons f1 (eCons f2 eNil))) r ec := t_call2 hm h1 h2 hr
theorem t_f3 {A1 A2 A3 : Type} {m : List PyData → Res PyData} {s : A1 → A2 → A3 → Res γ} {ec : γ → PyData} {e1 : A1 → PyData} {e2 : A2 → PyData} {e3 : A3 → PyData} {f1 f2 f3 : Ro → Res PyData} {r1 : Res A1} {r2 : Res A2} {r3 : Res A3} {r : Res γ} (hm : ∀ a1 a2 a3, RR (s a1 a2 a3) ec (m [e1 a1, e2 a2, e3 a3])) (h1 : TE L f1 r1 e1) (h2 : TE L f2 r2 e2) (h3 : TE L f3 r3 e3) (hr : r = r1.bind fun a1 => r2.bind fun a2 => r3.bind fun a3 => s a1 a2 a3 := by first | rfl | (simp only [Res.bind_ok, Res.assoc, Res.pure]; done)) : TE L (eCall m (eCons f1 (eCons f2 (eCons f3 eNil)))) r ec := t_call3 hm h1 h2 h3 hr
theorem t_f4 {A1 A2 A3 A4 : Type} {m : List PyData → Res PyData} {s : A1 → A2 → A3 → A4 → Res γ} {ec : γ → PyData} {e1 : A1 → PyData} {e2 : A2 → PyData} {e3 : A3 → PyData} {e4 : A4 → PyData} {f1 f2 f3 f4 : Ro → Res PyData} {r1 : Res A1} {r2 : Res A2} {r3 : Res A3} {r4 : Res A4} {r : Res γ} (hm : ∀ a1 a2 a3 a4, RR (s a1 a2 a3 a4) ec (m [e1 a1, e2 a2, e3 a3, e4 a4])) (h1 : TE L f1 r1 e1) (h2 : TE L f2 r2 e2) (h3 : TE L f3 r3 e3) (h4 : TE L f4 r4 e4) (hr : r = r1.bind fun a1 => r2.bind fun a2 => r3.bind fun a3 => r4.bind fun a4 => s a1 a2 a3 a4 := by first | rfl | (simp only [Res.bind_ok, Res.assoc, Res.pure]; done)) : TE L (eCall m (eCons f1 (eCons f2 (eCons f3 (eCons f4 eNil))))) r ec := t_call4 hm h1 h2 h3 h4 hr
theorem t_f5 {A1 A2 A3 A4 A5 : Type} {m : List PyData → Res PyData} {s : A1 → A2 → A3 → A4 → A5 → Res γ} {ec : γ → PyData} {e1 : A1 → PyData} {e2 : A2 → PyData} {e3 : A3 → PyData} {e4 : A4 → PyData} {e5 : A5 → PyData} {f1 f2 f3 f4 f5 : Ro → Res PyData} {r1 : Res A1} {r2 : Res A2} {r3 : Res A3} {r4 : Res A4} {r5 : Res A5} {r : Res γ} (hm : ∀ a1 a2 a3 a4 a5, RR (s a1 a2 a3 a4 a5) ec (m [e1 a1, e2 a2, e3 a3, e4 a4, e5 a5])) (h1 : TE L f1 r1 e1) (h2 : TE L f2 r2 e2) (h3 : TE L f3 r3 e3) (h4 : TE L f4 r4 e4) (h5 : TE L f5 r5 e5) (hr : r = r1.bind fun a1 => r2.bind fun a2 => r3.bind fun a3 => r4.bind fun a4 => r5.bind fun a5 => s a1 a2 a3 a4 a5 := by first | rfl | (simp only [Res.bind_ok, Res.assoc, Res.pure]; done)) : TE L (eCall m (eCons f1 (eCons f2 (eCons f3 (eCons f4 (eCons f5 eNil)))))) r ec := t_call5 hm h1 h2 h3 h4 h5 hr
theorem t_f6 {A1 A2 A3 A4 A5 A6 : Type} {m : List PyData → Res PyData} {s : A1 → A2 → A3 → A4 → A5 → A6 → Res γ} {ec : γ → PyData} {e1 : A1 → PyData} {e2 : A2 → PyData} {e3 : A3 → PyData} {e4 : A4 → PyData} {e5 : A5 → PyData} {e6 : A6 → PyData} {f1 f2 f3 f4 f5 f6 : Ro → Res PyData} {r1 : Res A1} {r2 : Res A2} {r3 : Res A3} {r4 : Res A4} {r5 : Res A5} {r6 : Res A6} {r : Res γ} (hm : ∀ a1 a2 a3 a4 a5 a6, RR (s a1 a2 a3 a4 a5 a6) ec (m [e1 a1, e2 a2, e3 a3, e4 a4, e5 a5, e6 a6])) (h1 : TE L f1 r1 e1) (h2 : TE L f2 r2 e2) (h3 : TE L f3 r3 e3) (h4 : TE L f4 r4 e4) (h5 : TE L f5 r5 e5) (h6 : TE L f6 r6 e6) (hr : r = r1.bind fun a1 => r2.bind fun a2 => r3.bind fun a3 => r4.bind fun a4 => r5.bind fun a5 => r6.bind fun a6 => s a1 a2 a3 a4 a5 a6 := by first | rfl | (simp only [Res.bind_ok, Res.assoc, Res.pure]; done)) : TE L (eCall m (eCons f1 (eCons f2 (eCons f3 (eCons f4 (eCons f5 (eCons f6 eNil))))))) r ec := t_call6 hm h1 h2 h3 h4 h5 h6 hr
theorem t_f7 {A1 A2 A3 A4 A5 A6 A7 : Type} {m : List PyData → Res PyData} {s : A1 → A2 → A3 → A4 → A5 → A6 → A7 → Res γ} {ec : γ → PyData} {e1 : A1 → PyData} {e2 : A2 → PyData} {e3 : A3 → PyData} {e4 : A4 → PyData} {e5 : A5 → PyData} {e6 : A6 → PyData} {e7 : A7 → PyData} {f1 f2 f3 f4 f5 f6 f7 : Ro → Res PyData} {r1 : Res A1} {r2 : Res A2} {r3 : Res A3} {r4 : Res A4} {r5 : Res A5} {r6 : Res A6} {r7 : Res A7} {r : Res γ} (hm : ∀ a1 a2 a3 a4 a5 a6 a7, RR (s a1 a2 a3 a4 a5 a6 a7) ec (m [e1 a1, e2 a2, e3 a3, e4 a4, e5 a5, e6 a6, e7 a7])) (h1 : TE L f1 r1 e1) (h2 : TE L f2 r2 e2) (h3 : TE L f3 r3 e3) (h4 : TE L f4 r4 e4) (h5 : TE L f5 r5 e5) (h6 : TE L f6 r6 e6) (h7 : TE L f7 r7 e7) (hr : r = r1.bind fun a1 => r2.bind fun a2 => r3.bind fun a3 => r4.bind fun a4 => r5.bind fun a5 => r6.bind fun a6 => r7.bind fun a7 => s a1 a2 a3 a4 a5 a6 a7 := by first | rfl | (simp only [Res.bind_ok, Res.assoc, Res.pure]; done)) : TE L (eCall m (eCons f1 (eCons f2 (eCons f3 (eCons f4 (eCons f5 (eCons f6 (eCons f7 eNil)))))))) r ec := t_call7 hm h1 h2 h3 h4 h5 h6 h7 hr
theorem t_f8 {A1 A2 A3 A4 A5 A6 A7 A8 : Type} {m : List PyData → Res PyData} {s : A1 → A2 → A3 → A4 → A5 → A6 → A7 → A8 → Res γ} {ec : γ → PyData} {e1 : A1 → PyData} {e2 : A2 → PyData} {e3 : A3 → PyData} {e4 : A4 → PyData} {e5 : A5 → PyData} {e6 : A6 → PyData} {e7 : A7 → PyData} {e8 : A8 → PyData} {f1 f2 f3 f4 f5 f6 f7 f8 : Ro → Res PyData} {r1 : Res A1} {r2 : Res A2} {r3 : Res A3} {r4 : Res A4} {r5 : Res A5} {r6 : Res A6} {r7 : Res A7} {r8 : Res A8} {r : Res γ} (hm : ∀ a1 a2 a3 a4 a5 a6 a7 a8, RR (s a1 a2 a3 a4 a5 a6 a7 a8) ec (m [e1 a1, e2 a2, e3 a3, e4 a4, e5 a5, e6 a6, e7 a7, e8 a8])) (h1 : TE L f1 r1 e1) (h2 : TE L f2 r2 e2) (h3 : TE L f3 r3 e3) (h4 : TE L f4 r4 e4) (h5 : TE L f5 r5 e5) (h6 : TE L f6 r6 e6) (h7 : TE L f7 r7 e7) (h8 : TE L f8 r8 e8) (hr : r = r1.bind fun a1 => r2.bind fun a2 => r3.bind fun a3 => r4.bind fun a4 => r5.bind fun a5 => r6.bind fun a6 => r7.bind fun a7 => r8.bind fun a8 => s a1 a2 a3 a4 a5 a6 a7 a8 := by first | rfl | (simp only [Res.bind_ok, Res.assoc, Res.pure]; done)) : TE L (eCall m (eCons f1 (eCons f2 (eCons f3 (eCons f4 (eCons f5 (eCons f6 (eCons f7 (eCons f8 eNil))))))))) r ec := t_call8 hm h1 h2 h3 h4 h5 h6 h7 h8 hr
theorem t_f9 {A1 A2 A3 A4 A5 A6 A7 A8 A9 : Type} {m : List PyData → Res PyData} {s : A1 → A2 → A3 → A4 → A5 → A6 → A7 → A8 → A9 → Res γ} {ec : γ → PyData} {e1 : A1 → PyData} {e2 : A2 → PyData} {e3 : A3 → PyData} {e4 : A4 → PyData} {e5 : A5 → PyData} {e6 : A6 → PyData} {e7 : A7 → PyData} {e8 : A8 → PyData} {e9 : A9 → PyData} {f1 f2 f3 f4 f5 f6 f7 f8 f9 : Ro → Res PyData} {r1 : Res A1} {r2 : Res A2} {r3 : Res A3} {r4 : Res A4} {r5 : Res A5} {r6 : Res A6} {r7 : Res A7} {r8 : Res A8} {r9 : Res A9} {r : Res γ} (hm : ∀ a1 a2 a3 a4 a5 a6 a7 a8 a9, RR (s a1 a2 a3 a4 a5 a6 a7 a8 a9) ec (m [e1 a1, e2 a2, e3 a3, e4 a4, e5 a5, e6 a6, e7 a7, e8 a8, e9 a9])) (h1 : TE L f1 r1 e1) (h2 : TE L f2 r2 e2) (h3 : TE L f3 r3 e3) (h4 : TE L f4 r4 e4) (h5 : TE L f5 r5 e5) (h6 : TE L f6 r6 e6) (h7 : TE L f7 r7 e7) (h8 : TE L f8 r8 e8) (h9 : TE L f9 r9 e9) (hr : r = r1.bind fun a1 => r2.bind fun a2 => r3.bind fun a3 => r4.bind fun a4 => r5.bind fun a5 => r6.bind fun a6 => r7.bind fun a7 => r8.bind fun a8 => r9.bind fun a9 => s a1 a2 a3 a4 a5 a6 a7 a8 a9 := by first | rfl | (simp only [Res.bind_ok, Res.assoc, Res.pure]; done)) : TE L (eCall m (eCons f1 (eCons f2 (eCons f3 (eCons f4 (eCons f5 (eCons f6 (eCons f7 (eCons f8 (eCons f9 eNil)))))))))) r ec := t_call9 hm h1 h2 h3 h4 h5 h6 h7 h8 h9 hr
theorem t_f10 {A1 A2 A3 A4 A5 A6 A7 A8 A9 A10 : Type} {m : List PyData → Res PyData} {s : A1 → A2 → A3 → A4 → A5 → A6 → A7 → A8 → A9 → A10 → Res γ} {ec : γ → PyData} {e1 : A1 → PyData} {e2 : A2 → PyData} {e3 : A3 → PyData} {e4 : A4 → PyData} {e5 : A5 → PyData} {e6 : A6 → PyData} {e7 : A7 → PyData} {e8 : A8 → PyData} {e9 : A9 → PyData} {e10 : A10 → PyData} {f1 f2 f3 f4 f5 f6 f7 f8 f9 f10 : Ro → Res PyData} {r1 : Res A1} {r2 : Res A2} {r3 : Res A3} {r4 : Res A4} {r5 : Res A5} {r6 : Res A6} {r7 : Res A7} {r8 : Res A8} {r9 : Res A9} {r10 : Res A10} {r : Res γ} (hm : ∀ a1 a2 a3 a4 a5 a6 a7 a8 a9 a10, RR (s a1 a2 a3 a4 a5 a6 a7 a8 a9 a10) ec (m [e1 a1, e2 a2, e3 a3, e4 a4, e5 a5, e6 a6, e7 a7, e8 a8, e9 a9, e10 a10])) (h1 : TE L f1 r1 e1) (h2 : TE L f2 r2 e2) (h3 : TE L f3 r3 e3) (h4 : TE L f4 r4 e4) (h5 : TE L f5 r5 e5) (h6 : TE L f6 r6 e6) (h7 : TE L f7 r7 e7) (h8 : TE L f8 r8 e8) (h9 : TE L f9 r9 e9) (h10 : TE L f10 r10 e10) (hr : r = r1.bind fun a1 => r2.bind fun a2 => r3.bind fun a3 => r4.bind fun a4 => r5.bind fun a5 => r6.bind fun a6 => r7.bind fun a7 => r8.bind fun a8 => r9.bind fun a9 => r10.bind fun a10 => s a1 a2 a3 a4 a5 a6 a7 a8 a9 a10 := by first | rfl | (simp only [Res.bind_ok, Res.assoc, Res.pure]; done)) : TE L (eCall m (eCons f1 (eCons f2 (eCons f3 (eCons f4 (eCons f5 (eCons f6 (eCons f7 (eCons f8 (eCons f9 (eCons f10 eNil))))))))))) r ec := t_call10 hm h1 h2 h3 h4 h5 h6 h7 h8 h9 h10 hr

/-- tests -/
theorem t_tb {f : Ro → Res PyData} {r : Res Bool} (hf : TE L f r eBo) : TE L (eTb f) r eId := fun ρ h => by
  have := hf ρ h
  show RR r eId ((f ρ).bind fun d => ofO (asB d))
  cases r with
  | ok a => have q : f ρ = .ok (eBo a) := this; rw [q]; rfl
  | exc c k => have q : f ρ = .exc c k := this; rw [q]; rfl
  | bad => trivial
theorem t_bool {c : Ro → Res Bool} {r : Res Bool} (hf : TE L c r eId) : TE L (eBool c) r eBo := fun ρ h => by
  have := hf ρ h
  show RR r eBo ((c ρ).bind fun b => .ok (.bool b))
  cases r with
  | ok a => have q : c ρ = .ok a := this; rw [q]; rfl
  | exc c' k => have q : c ρ = .exc c' k := this; rw [q]; rfl
  | bad => trivial
theorem t_true {r : Res Bool} (hr : r = .ok true := by first | rfl | (simp only [Res.bind_ok, Res.assoc, Res.pure]; done)) : TE L eTrue r eId := by
  subst hr; exact fun ρ g => rfl
theorem t_not {c : Ro → Res Bool} {ra r : Res Bool} (hf : TE L c ra eId) (hr : r = ra.bind fun b => .ok (!b) := by first | rfl | (simp only [Res.bind_ok, Res.assoc, Res.pure]; done)) : TE L (eNot c) r eId := by
  subst hr; exact fun ρ h => (hf ρ h).bind fun b => rfl
theorem t_and {c d : Ro → Res Bool} {ra rb r : Res Bool} (hf : TE L c ra eId) (hg : TE L d rb eId) (hr : r = ra.bind fun b => if b = true then rb else .ok false := by first | rfl | (simp only [Res.bind_ok, Res.assoc, Res.pure]; done)) : TE L (eAnd c d) r eId := by
  subst hr
  refine fun ρ h => (hf ρ h).bind fun b => ?_
  cases b
  · rfl
  · exact hg ρ h
theorem t_or {c d : Ro → Res Bool} {ra rb r : Res Bool} (hf : TE L c ra eId) (hg : TE L d rb eId) (hr : r = ra.bind fun b => if b = true then .ok true else rb := by first | rfl | (simp only [Res.bind_ok, Res.assoc, Res.pure]; done)) : TE L (eOr c d) r eId := by
  subst hr
  refine fun ρ h => (hf ρ h).bind fun b => ?_
  cases b
  · exact hg ρ h
  · rfl
/-- flat ones -/
theorem t_andP {c d : Ro → Res Bool} {a b : Bool} {r : Res Bool} (hf : TE L c (.ok a) eId) (hg : TE L d (.ok b) eId) (hr : r = .ok (a && b) := by first | rfl | (simp only [Res.bind_ok, Res.assoc, Res.pure]; done)) : TE L (eAnd c d) r eId := by
  refine t_and hf hg ?_
  subst hr; cases a <;> rfl
theorem t_orP {c d : Ro → Res Bool} {a b : Bool} {r : Res Bool} (hf : TE L c (.ok a) eId) (hg : TE L d (.ok b) eId) (hr : r = .ok (a || b) := by first | rfl | (simp only [Res.bind_ok, Res.assoc, Res.pure]; done)) : TE L (eOr c d) r eId := by
  refine t_or hf hg ?_
  subst hr; cases a <;> rfl
theorem t_if {α' : Type} {e : α → α'} {c : Ro → Res Bool} {f g : Ro → Res α'} {rc : Res Bool} {ra rb r : Res α} (hc : TE L c rc eId) (hf : TE L f ra e) (hg : TE L g rb e) (hr : r = rc.bind fun b => if b = true then ra else rb := by first | rfl | (simp only [Res.bind_ok, Res.assoc, Res.pure]; done)) : TE L (eIf c f g) r e := by
  subst hr
  refine fun ρ h => (hc ρ h).bind fun b => ?_
  cases b
  · exact hg ρ h
  · exact hf ρ h
theorem t_ifP {α' : Type} {e : α → α'} {c : Ro → Res Bool} {f g : Ro → Res α'} {b : Bool} {x y : α} {r : Res α} (hc : TE L c (.ok b) eId) (hf : TE L f (.ok x) e) (hg : TE L g (.ok y) e) (hr : r = .ok (if b = true then x else y) := by first | rfl | (simp only [Res.bind_ok, Res.assoc, Res.pure]; done)) : TE L (eIf c f g) r e := by
  refine t_if hc hf hg ?_
  subst hr; cases b <;> rfl
/-- comparisons of numbers -/
def CmpI (s : PyData → PyData → Option PyData) (p : Int → Int → Bool) : Prop := ∀ a b, s (.int a) (.int b) = some (.bool (p a b))
theorem ci_lt : CmpI ltD (fun a b => decide (a < b)) := fun _ _ => rfl
theorem ci_le : CmpI leD (fun a b => decide (a ≤ b)) := fun _ _ => rfl
theorem ci_gt : CmpI gtD (fun a b => decide (b < a)) := fun _ _ => rfl
theorem ci_ge : CmpI geD (fun a b => decide (b ≤ a)) := fun _ _ => rfl
theorem ci_eq : CmpI eqD (fun a b => decide (a = b)) := fun a b => by
  simp [eqD, SeqAt.shaped, PyData.canLay0, PyData.depth, PyData.eqv]
  by_cases h : a = b <;> simp [h]
theorem ci_ne : CmpI neD (fun a b => !decide (a = b)) := fun a b => by
  simp [neD, SeqAt.shaped, PyData.canLay0, PyData.depth, PyData.eqv]
  by_cases h : a = b <;> simp [h]
theorem t_cmp {s : PyData → PyData → Option PyData} {p : Int → Int → Bool} {f g : Ro → Res PyData} {ra rb : Res Int} {r : Res Bool} (op : CmpI s p) (hf : TE L f ra eI) (hg : TE L g rb eI) (hr : r = ra.bind fun a => rb.bind fun b => .ok (p a b) := by first | rfl | (simp only [Res.bind_ok, Res.assoc, Res.pure]; done)) : TE L (e2 s f g) r eBo :=
  t_e2 (k := fun a b => .ok (p a b)) (fun a b => by rw [op a b]; rfl) hf hg hr
theorem t_chain {s s' : PyData → PyData → Option PyData} {p q : Int → Int → Bool} {f g h : Ro → Res PyData} {ra rb rc : Res Int} {r : Res Bool} (op : CmpI s p) (op' : CmpI s' q) (hf : TE L f ra eI) (hg : TE L g rb eI) (hh : TE L h rc eI) (hr : r = ra.bind fun a => rb.bind fun b => if p a b = true then rc.bind fun c => .ok (q b c) else .ok false := by first | rfl | (simp only [Res.bind_ok, Res.assoc, Res.pure]; done)) : TE L (eChain s s' f g h) r eId := by
  subst hr
  refine fun ρ z => (hf ρ z).bind fun a => (hg ρ z).bind fun b => ?_
  rw [op a b]
  show RR _ _ ((ofO (asB (.bool (p a b)))).bind _)
  simp only [asB_bool, ofO_some, Res.bind_ok]
  cases p a b with
  | false => rfl
  | true =>
    simp only [if_true]
    exact (hh ρ z).bind fun c => by rw [op' b c]; rfl
theorem t_chainP {s s' : PyData → PyData → Option PyData} {p q : Int → Int → Bool} {f g h : Ro → Res PyData} {a b c : Int} {r : Res Bool} (op : CmpI s p) (op' : CmpI s' q) (hf : TE L f (.ok a) eI) (hg : TE L g (.ok b) eI) (hh : TE L h (.ok c) eI) (hr : r = .ok (p a b && q b c) := by first | rfl | (simp only [Res.bind_ok, Res.assoc, Res.pure]; done)) : TE L (eChain s s' f g h) r eId := by
  refine t_chain op op' hf hg hh ?_
  subst hr
  show _ = if p a b = true then Res.ok (q b c) else .ok false
  cases p a b <;> rfl
/-- coercions -/
theorem t_some {f : Ro → Res PyData} {e : α → PyData} {ra : Res α} {r : Res (Option α)} (hf : TE L f ra e) (hr : r = ra.bind fun a => .ok (some a) := by first | rfl | (simp only [Res.bind_ok, Res.assoc, Res.pure]; done)) : TE L f r (eO e) := by
  subst hr
  intro ρ g
  have := hf ρ g
  cases ra <;> exact this
theorem t_dyn {f : Ro → Res PyData} {e : α → PyData} {ra : Res α} {r : Res PyData} (hf : TE L f ra e) (hr : r = ra.bind fun a => .ok (e a) := by first | rfl | (simp only [Res.bind_ok, Res.assoc, Res.pure]; done)) : TE L f r eD := by
  subst hr
  intro ρ g
  have := hf ρ g
  cases ra <;> exact this
def unO (o : Option α) : Res α := match o with
  | some a => .ok a
  | none => .bad
theorem t_unO {f : Ro → Res PyData} {e : α → PyData} {ra : Res (Option α)} {r : Res α} (hf : TE L f ra (eO e)) (hr : r = ra.bind unO := by first | rfl | (simp only [Res.bind_ok, Res.assoc, Res.pure]; done)) : TE L f r e := by
  subst hr
  intro ρ g
  have := hf ρ g
  cases ra with
  | ok o => cases o with
    | none => trivial
    | some a => exact this
  | exc c k => exact this
  | bad => trivial
end
end Pf
/-! Ts2: operators, built-ins, comprehensions by typed functions. -/
namespace Pf
open PySem PySem.Spec PyProof.Rows L2
section
variable {α β γ δ : Type}
theorem RR.ofOp {x : α} {e : α → β} {o : Option β} (h : o = some (e x)) : RR (.ok x) e (ofO o) := by subst h; rfl
theorem RR.iff {c : Prop} [Decidable c] {x : α} {e : α → β} {o : Option β} (h : c → o = some (e x)) : RR (if c then .ok x else .bad) e (ofO o) := by
  by_cases hc : c
  · rw [if_pos hc, h hc]; rfl
  · rw [if_neg hc]; trivial

/-! ### numbers -/
def mulR (a b : Int) : Res Int := if okMul a b = true then .ok (a * b) else .bad
def divR (a b : Int) : Res Int := if 0 < b ∧ b.natAbs.log2 < 9000 then .ok (a / b) else .bad
def modR (a b : Int) : Res Int := if 0 < b then .ok (a % b) else .bad
def powR (a b : Int) : Res Int := if 0 ≤ b ∧ b ≤ 1000000 ∧ a.natAbs < 2 ^ 64 then .ok (a ^ b.toNat) else .bad
theorem op_add : Op2 addD eI eI eI (fun a b => .ok (a + b)) := fun a b => rfl
theorem op_sub : Op2 subD eI eI eI (fun a b => .ok (a - b)) := fun a b => rfl
theorem op_mul : Op2 mulD eI eI eI mulR := fun a b => by unfold mulR; exact RR.iff fun h => mulD_int h
theorem op_div : Op2 divD eI eI eI divR := fun a b => by unfold divR; exact RR.iff fun h => divD_int h.1 h.2
theorem op_mod : Op2 modD eI eI eI modR := fun a b => by unfold modR; exact RR.iff fun h => modD_int h
theorem op_pow : Op2 powD eI eI eI powR := fun a b => by unfold powR; exact RR.iff fun h => by simp [powD, h]
theorem op_neg : Op1 negD eI eI (fun a => .ok (-a)) := fun a => rfl
theorem b_abs : B1 absD eI eI (fun a => .ok (a.natAbs : Int)) := fun a => .ofOp (absD_int a)
theorem b_int : B1 intD eI eI (fun a => .ok a) := fun a => rfl
theorem b_intB : B1 intD eBo eI (fun a => .ok (if a = true then 1 else 0)) := fun a => rfl
theorem b_max2 : B2 max2D eI eI eI (fun a b => .ok (max a b)) := fun a b => .ofOp (max2D_int a b)
theorem b_min2 : B2 min2D eI eI eI (fun a b => .ok (min a b)) := fun a b => .ofOp (min2D_int a b)
/-! with a number told -/
theorem t_modc {L : Pn} {f : Ro → Res PyData} {n : Int} {ra r : Res Int} (hf : TE L f ra eI) (hn : 0 < n := by decide) (hr : r = ra.bind fun a => .ok (a % n) := by first | rfl | (simp only [Res.bind_ok, Res.assoc, Res.pure]; done)) : TE L (e2 modD f (eC (.int n))) r eI :=
  t_e2 (k := fun a b => if b = n then .ok (a % n) else .bad) (fun a b => RR.iff fun h => by subst h; exact modD_int hn) hf (t_c rfl) (by subst hr; cases ra <;> simp [Res.bind])
theorem t_divc {L : Pn} {f : Ro → Res PyData} {n : Int} {ra r : Res Int} (hf : TE L f ra eI) (hn : 0 < n ∧ n.natAbs.log2 < 9000 := by decide) (hr : r = ra.bind fun a => .ok (a / n) := by first | rfl | (simp only [Res.bind_ok, Res.assoc, Res.pure]; done)) : TE L (e2 divD f (eC (.int n))) r eI :=
  t_e2 (k := fun a b => if b = n then .ok (a / n) else .bad) (fun a b => RR.iff fun h => by subst h; exact divD_int hn.1 hn.2) hf (t_c rfl) (by subst hr; cases ra <;> simp [Res.bind])
theorem t_powc {L : Pn} {a b c : Int} {r : Res Int} (h : 0 ≤ b ∧ b ≤ 1000000 ∧ a.natAbs < 2 ^ 64 ∧ a ^ b.toNat = c := by decide) (hr : r = .ok c := by first | rfl | (simp only [Res.bind_ok, Res.assoc, Res.pure]; done)) : TE L (e2 powD (eC (.int a)) (eC (.int b))) r eI := by
  subst hr
  intro ρ _
  have : powD (.int a) (.int b) = some (.int c) := by simp [powD, h]
  show RR _ _ (ofO (powD (.int a) (.int b)))
  rw [this]; rfl

/-! ### what is shaped, equality -/
theorem canAll_map {e : α → PyData} (h : ∀ a, PyData.canLay0 (e a) = true) : ∀ xs : List α, PyData.canLayAll0 (xs.map e) = true
  | [] => rfl
  | a :: xs => by simp [PyData.canLayAll0, h a, canAll_map h xs]
theorem depthAll_map {e : α → PyData} {d : Nat} (h : ∀ a, PyData.depth (e a) ≤ d) : ∀ xs : List α, PyData.depthAll (xs.map e) ≤ d
  | [] => by simp [PyData.depthAll]
  | a :: xs => by simp only [List.map_cons, PyData.depthAll]; have := h a; have := depthAll_map h xs; omega
/-- few, shallow, told by == -/
class GE {α : Type} (e : α → PyData) (d : outParam Nat) : Prop where
  lay : ∀ a, PyData.canLay0 (e a) = true
  dep : ∀ a, PyData.depth (e a) ≤ d
  inj : ∀ a b, PyData.eqv (e a) (e b) = true ↔ a = b
/-- not None -/
class NN {α : Type} (e : α → PyData) : Prop where
  nn : ∀ a, isNo (e a) = false
theorem eqv_none {d : PyData} (h : isNo d = false) : PyData.eqv .none d = false ∧ PyData.eqv d .none = false := by
  cases d <;> simp_all [PyData.eqv, isNo]
theorem eqvAll_map {e : α → PyData} (h : ∀ a b, PyData.eqv (e a) (e b) = true ↔ a = b) : ∀ xs ys : List α, PyData.eqvAll (xs.map e) (ys.map e) = true ↔ xs = ys
  | [], [] => by simp [PyData.eqvAll]
  | [], y :: ys => by simp [PyData.eqvAll]
  | x :: xs, [] => by simp [PyData.eqvAll]
  | x :: xs, y :: ys => by simp [PyData.eqvAll, h x y, eqvAll_map h xs ys]
instance : GE eI 0 := ⟨fun _ => rfl, fun _ => Nat.le_refl _, fun a b => by simp [PyData.eqv]⟩
instance : GE eBo 0 := ⟨fun _ => rfl, fun _ => Nat.le_refl _, fun a b => by simp [PyData.eqv]⟩
instance : GE eU 0 := ⟨fun _ => rfl, fun _ => Nat.le_refl _, fun a b => by simp [eU, PyData.eqv]⟩
instance : NN eI := ⟨fun _ => rfl⟩
instance : NN eBo := ⟨fun _ => rfl⟩
instance : NN eS := ⟨fun _ => rfl⟩
instance {e : α → PyData} : NN (eL e) := ⟨fun _ => rfl⟩
instance {e : α → PyData} : NN (eT e) := ⟨fun _ => rfl⟩
instance {e : α → PyData} {f : β → PyData} : NN (eP e f) := ⟨fun _ => rfl⟩
instance {e : α → PyData} {f : β → PyData} {g : γ → PyData} : NN (eP3 e f g) := ⟨fun _ => rfl⟩
instance {e : α → PyData} {f : β → PyData} {g : γ → PyData} {h : δ → PyData} : NN (eP4 e f g h) := ⟨fun _ => rfl⟩
instance {e : α → PyData} {d : Nat} [G : GE e d] : GE (eL e) (d + 1) := ⟨fun a => by simp only [eL, PyData.canLay0]; exact canAll_map G.lay a, fun a => by simp only [eL, PyData.depth]; have := depthAll_map G.dep a; omega, fun a b => by simp only [eL, PyData.eqv]; exact eqvAll_map G.inj a b⟩
instance {e : α → PyData} {d : Nat} [G : GE e d] : GE (eT e) (d + 1) := ⟨fun a => by simp only [eT, PyData.canLay0]; exact canAll_map G.lay a, fun a => by simp only [eT, PyData.depth]; have := depthAll_map G.dep a; omega, fun a b => by simp only [eT, PyData.eqv]; exact eqvAll_map G.inj a b⟩
instance {e : α → PyData} {f : β → PyData} {d d' : Nat} [G : GE e d] [G' : GE f d'] : GE (eP e f) (max d d' + 1) := ⟨fun a => by simp [eP, PyData.canLay0, PyData.canLayAll0, G.lay, G'.lay], fun a => by simp only [eP, PyData.depth, PyData.depthAll]; have := G.dep a.1; have := G'.dep a.2; omega, fun a b => by
  simp only [eP, PyData.eqv, PyData.eqvAll, Bool.and_eq_true, G.inj, G'.inj, Prod.ext_iff, and_true]⟩
instance {e : α → PyData} {f : β → PyData} {g : γ → PyData} {d d' d'' : Nat} [G : GE e d] [G' : GE f d'] [G'' : GE g d''] : GE (eP3 e f g) (max d (max d' d'') + 1) := ⟨fun a => by simp [eP3, PyData.canLay0, PyData.canLayAll0, G.lay, G'.lay, G''.lay], fun a => by simp only [eP3, PyData.depth, PyData.depthAll]; have := G.dep a.1; have := G'.dep a.2.1; have := G''.dep a.2.2; omega, fun a b => by
  simp only [eP3, PyData.eqv, PyData.eqvAll, Bool.and_eq_true, G.inj, G'.inj, G''.inj, Prod.ext_iff, and_true]⟩
instance {e : α → PyData} {f : β → PyData} {g : γ → PyData} {h : δ → PyData} {d d' d'' d3 : Nat} [G : GE e d] [G' : GE f d'] [G'' : GE g d''] [G3 : GE h d3] : GE (eP4 e f g h) (max (max d d3) (max d' d'') + 1) := ⟨fun a => by simp [eP4, PyData.canLay0, PyData.canLayAll0, G.lay, G'.lay, G''.lay, G3.lay], fun a => by simp only [eP4, PyData.depth, PyData.depthAll]; have := G.dep a.1; have := G'.dep a.2.1; have := G''.dep a.2.2.1; have := G3.dep a.2.2.2; omega, fun a b => by
  simp only [eP4, PyData.eqv, PyData.eqvAll, Bool.and_eq_true, G.inj, G'.inj, G''.inj, G3.inj, Prod.ext_iff, and_true]⟩
instance {e : α → PyData} {d : Nat} [G : GE e d] [N : NN e] : GE (eO e) d := ⟨fun a => by cases a <;> simp [eO, PyData.canLay0, G.lay], fun a => by cases a <;> simp [eO, PyData.depth, G.dep], fun a b => by
  cases a with
  | none => cases b with
    | none => simp [eO, PyData.eqv]
    | some b => simp [eO, (eqv_none (N.nn b)).1]
  | some a => cases b with
    | none => simp [eO, (eqv_none (N.nn a)).2]
    | some b => simp [eO, G.inj]⟩
theorem GE.sh {e : α → PyData} {d : Nat} [G : GE e d] (h : d ≤ 64) (a : α) : SeqAt.shaped (e a) = true := by
  unfold SeqAt.shaped
  have := G.dep a
  simp [G.lay a]; omega
theorem GE.eqd {e : α → PyData} {d : Nat} [G : GE e d] [DecidableEq α] (a b : α) : PyData.eqv (e a) (e b) = decide (a = b) := by
  have := G.inj a b
  by_cases h : a = b
  · rw [decide_eq_true h]; exact this.mpr h
  · rw [decide_eq_false h]
    cases z : PyData.eqv (e a) (e b) with
    | false => rfl
    | true => exact absurd (this.mp z) h
theorem op_eq (e : α → PyData) {d : Nat} [GE e d] [DecidableEq α] (h : d ≤ 64 := by decide) : Op2 eqD e e eBo (fun a b => .ok (decide (a = b))) := fun a b => .ofOp (by
  unfold eqD
  rw [if_pos ⟨GE.sh h a, GE.sh h b⟩, GE.eqd])
theorem op_ne (e : α → PyData) {d : Nat} [GE e d] [DecidableEq α] (h : d ≤ 64 := by decide) : Op2 neD e e eBo (fun a b => .ok (!decide (a = b))) := fun a b => .ofOp (by
  unfold neD
  rw [if_pos ⟨GE.sh h a, GE.sh h b⟩, GE.eqd])
theorem any_in {e : α → PyData} {d : Nat} [GE e d] [DecidableEq α] (a : α) : ∀ xs : List α, ((xs.map e).any fun z => PyData.eqv z (e a)) = decide (a ∈ xs)
  | [] => rfl
  | x :: xs => by
    rw [List.map_cons, List.any_cons, any_in a xs, GE.eqd]
    by_cases h : a = x
    · subst h; simp
    · have : ¬ x = a := fun z => h z.symm
      simp [h, this]
theorem op_in (e : α → PyData) {d : Nat} [GE e d] [DecidableEq α] (h : d + 1 ≤ 64 := by decide) : Op2 inD e (eL e) eBo (fun a xs => .ok (decide (a ∈ xs))) := fun a xs => .ofOp (by
  show (if _ then some _ else none) = _
  rw [if_pos ⟨GE.sh (by omega) a, GE.sh (e := eL e) h xs⟩, any_in])
theorem op_nin (e : α → PyData) {d : Nat} [GE e d] [DecidableEq α] (h : d + 1 ≤ 64 := by decide) : Op2 ninD e (eL e) eBo (fun a xs => .ok (!decide (a ∈ xs))) := fun a xs => .ofOp (by
  show (if _ then some _ else none) = _
  rw [if_pos ⟨GE.sh (by omega) a, GE.sh (e := eL e) h xs⟩, any_in])
theorem op_itup (e : α → PyData) {d : Nat} [GE e d] [DecidableEq α] (h : d + 1 ≤ 64 := by decide) : Op2 inD e (eT e) eBo (fun a xs => .ok (decide (a ∈ xs))) := fun a xs => .ofOp (by
  show (if _ then some _ else none) = _
  rw [if_pos ⟨GE.sh (by omega) a, GE.sh (e := eT e) h xs⟩, any_in])
theorem op_nitup (e : α → PyData) {d : Nat} [GE e d] [DecidableEq α] (h : d + 1 ≤ 64 := by decide) : Op2 ninD e (eT e) eBo (fun a xs => .ok (!decide (a ∈ xs))) := fun a xs => .ofOp (by
  show (if _ then some _ else none) = _
  rw [if_pos ⟨GE.sh (by omega) a, GE.sh (e := eT e) h xs⟩, any_in])
/-- strings: any data, by its own words -/
def eqR (d e : PyData) : Res Bool := (ofO (eqD d e)).bind fun z => ofO (asB z)
def neR (d e : PyData) : Res Bool := (ofO (neD d e)).bind fun z => ofO (asB z)
theorem RR.asB {o : Option PyData} (h : ∀ d, o = some d → ∃ b, d = .bool b) : RR ((ofO o).bind fun z => ofO (asB z)) eBo (ofO o) := by
  cases o with
  | none => trivial
  | some d => obtain ⟨b, rfl⟩ := h d rfl; rfl
theorem op_eqR (e : α → PyData) (f : β → PyData) : Op2 eqD e f eBo (fun a b => eqR (e a) (f b)) := fun a b => RR.asB fun d h => by
  unfold eqD at h
  split at h
  · cases h; exact ⟨_, rfl⟩
  · cases h
theorem op_neR (e : α → PyData) (f : β → PyData) : Op2 neD e f eBo (fun a b => neR (e a) (f b)) := fun a b => RR.asB fun d h => by
  unfold neD at h
  split at h
  · cases h; exact ⟨_, rfl⟩
  · cases h
def inR (d e : PyData) : Res Bool := (ofO (inD d e)).bind fun z => ofO (asB z)
theorem op_inR (e : α → PyData) (f : β → PyData) : Op2 inD e f eBo (fun a b => inR (e a) (f b)) := fun a b => RR.asB fun d h => by
  unfold inD at h
  split at h
  · split at h
    · cases h; exact ⟨_, rfl⟩
    · cases h
  · split at h
    · cases h; exact ⟨_, rfl⟩
    · cases h
  · cases h
def ninR (d e : PyData) : Res Bool := (ofO (ninD d e)).bind fun z => ofO (asB z)
theorem op_ninR (e : α → PyData) (f : β → PyData) : Op2 ninD e f eBo (fun a b => ninR (e a) (f b)) := fun a b => RR.asB fun d h => by
  unfold ninD at h
  split at h
  · split at h
    · cases h; exact ⟨_, rfl⟩
    · cases h
  · split at h
    · cases h; exact ⟨_, rfl⟩
    · cases h
  · cases h
/-- any step on bare data -/
theorem op_dyn2 (s : PyData → PyData → Option PyData) : Op2 s eD eD eD (fun a b => ofO (s a b)) := fun a b => by
  show RR (ofO (s a b)) _ (ofO (s a b))
  cases s a b
  · trivial
  · rfl
theorem op_dyn1 {δ : Type} {e : δ → PyData} (s : PyData → Option PyData) : Op1 s eD eD (fun a => ofO (s a)) := fun a => by
  show RR (ofO (s a)) _ (ofO (s a))
  cases s a
  · trivial
  · rfl
theorem t_dynB {L : Pn} {f : Ro → Res PyData} {ra : Res PyData} {r : Res Bool} (hf : TE L f ra eD) (hr : r = ra.bind fun d => ofO (asB d) := by first | rfl | (simp only [Res.bind_ok, Res.assoc, Res.pure]; done)) : TE L (eTb f) r eId := by
  subst hr
  exact fun ρ h => (hf ρ h).bind fun a => by
    show RR (ofO (asB a)) _ (ofO (asB a))
    cases asB a
    · trivial
    · rfl
/-- None or not -/
theorem op_isN {e : α → PyData} [N : NN e] : Op2 isD (eO e) eU eBo (fun a _ => .ok a.isNone) := fun a b => by
  cases a with
  | none => rfl
  | some a => exact .ofOp (by show some (PyData.bool (isNo (e a))) = _; rw [N.nn]; rfl)
theorem op_isnN {e : α → PyData} [N : NN e] : Op2 isnD (eO e) eU eBo (fun a _ => .ok a.isSome) := fun a b => by
  cases a with
  | none => rfl
  | some a => exact .ofOp (by show some (PyData.bool (!isNo (e a))) = _; rw [N.nn]; rfl)
theorem op_isB : Op2 isD eBo eBo eBo (fun a b => .ok (decide (a = b))) := fun a b => rfl
theorem op_isnB : Op2 isnD eBo eBo eBo (fun a b => .ok (!decide (a = b))) := fun a b => rfl

/-! ### lists -/
def catR (xs ys : List α) : Res (List α) := if xs.length + ys.length ≤ 16777216 then .ok (xs ++ ys) else .bad
theorem op_cat {e : α → PyData} : Op2 addD (eL e) (eL e) (eL e) catR := fun a b => by
  unfold catR; exact RR.iff fun h => by simp [addD, eL, h]
theorem op_catN {e : α → PyData} : Op2 catL (eL e) (eL e) (List.map e) catR := fun a b => by
  unfold catR; exact RR.iff fun h => by simp [catL, eL, h]
def repR (xs : List α) (k : Int) : Res (List α) := if 0 ≤ k ∧ k < 16777216 ∧ xs.length * k.toNat ≤ 16777216 then .ok (List.replicate k.toNat xs).flatten else .bad
theorem op_rep {e : α → PyData} : Op2 mulD (eL e) eI (eL e) repR := fun a b => by
  unfold repR; exact RR.iff fun h => by simp [mulD, eL, h, List.map_flatten]
theorem op_repN {e : α → PyData} : Op2 repL (eL e) eI (List.map e) repR := fun a b => by
  unfold repR; exact RR.iff fun h => by simp [repL, eL, h, List.map_flatten]
def atR (xs : List α) (i : Int) : Res α := ofO (atI xs i)
theorem RR.ofM {e : α → β} (o : Option α) : RR (ofO o) e (ofO (o.map e)) := by
  cases o
  · trivial
  · rfl
theorem op_ix {e : α → PyData} : Op2 ixD (eL e) eI e atR := fun a b => by
  show RR (ofO (atI a b)) e (ofO (atI (a.map e) b))
  rw [atI_map]; exact .ofM _
theorem op_ixT {e : α → PyData} : Op2 ixD (eT e) eI e atR := fun a b => by
  show RR (ofO (atI a b)) e (ofO (atI (a.map e) b))
  rw [atI_map]; exact .ofM _
theorem op_ixS : Op2 ixD eScr eI eI atR := fun a b => by
  show RR (ofO (atI a b)) eI (ofO (ixD (scr a) (.int b)))
  rw [ixD_scr]; exact .ofM _
section
variable {L : Pn} {f : Ro → Res PyData} {ε : Type}
theorem t_p0 {e : α → PyData} {e' : β → PyData} {ra : Res (α × β)} {r : Res α} (hf : TE L f ra (eP e e')) (hr : r = ra.bind fun p => .ok p.1 := by first | rfl | (simp only [Res.bind_ok, Res.assoc, Res.pure]; done)) : TE L (e2 ixD f (eC (.int 0))) r e := by
  subst hr; exact fun ρ h => (hf ρ h).bind fun a => rfl
theorem t_p1 {e : α → PyData} {e' : β → PyData} {ra : Res (α × β)} {r : Res β} (hf : TE L f ra (eP e e')) (hr : r = ra.bind fun p => .ok p.2 := by first | rfl | (simp only [Res.bind_ok, Res.assoc, Res.pure]; done)) : TE L (e2 ixD f (eC (.int 1))) r e' := by
  subst hr; exact fun ρ h => (hf ρ h).bind fun a => rfl
theorem t_q0 {e : α → PyData} {e' : β → PyData} {e'' : γ → PyData} {ra : Res (α × β × γ)} {r : Res α} (hf : TE L f ra (eP3 e e' e'')) (hr : r = ra.bind fun p => .ok p.1 := by first | rfl | (simp only [Res.bind_ok, Res.assoc, Res.pure]; done)) : TE L (e2 ixD f (eC (.int 0))) r e := by
  subst hr; exact fun ρ h => (hf ρ h).bind fun a => rfl
theorem t_q1 {e : α → PyData} {e' : β → PyData} {e'' : γ → PyData} {ra : Res (α × β × γ)} {r : Res β} (hf : TE L f ra (eP3 e e' e'')) (hr : r = ra.bind fun p => .ok p.2.1 := by first | rfl | (simp only [Res.bind_ok, Res.assoc, Res.pure]; done)) : TE L (e2 ixD f (eC (.int 1))) r e' := by
  subst hr; exact fun ρ h => (hf ρ h).bind fun a => rfl
theorem t_q2 {e : α → PyData} {e' : β → PyData} {e'' : γ → PyData} {ra : Res (α × β × γ)} {r : Res γ} (hf : TE L f ra (eP3 e e' e'')) (hr : r = ra.bind fun p => .ok p.2.2 := by first | rfl | (simp only [Res.bind_ok, Res.assoc, Res.pure]; done)) : TE L (e2 ixD f (eC (.int 2))) r e'' := by
  subst hr; exact fun ρ h => (hf ρ h).bind fun a => rfl
theorem t_r0 {e : α → PyData} {e' : β → PyData} {e'' : γ → PyData} {e3 : δ → PyData} {ra : Res (α × β × γ × δ)} {r : Res α} (hf : TE L f ra (eP4 e e' e'' e3)) (hr : r = ra.bind fun p => .ok p.1 := by first | rfl | (simp only [Res.bind_ok, Res.assoc, Res.pure]; done)) : TE L (e2 ixD f (eC (.int 0))) r e := by
  subst hr; exact fun ρ h => (hf ρ h).bind fun a => rfl
theorem t_r1 {e : α → PyData} {e' : β → PyData} {e'' : γ → PyData} {e3 : δ → PyData} {ra : Res (α × β × γ × δ)} {r : Res β} (hf : TE L f ra (eP4 e e' e'' e3)) (hr : r = ra.bind fun p => .ok p.2.1 := by first | rfl | (simp only [Res.bind_ok, Res.assoc, Res.pure]; done)) : TE L (e2 ixD f (eC (.int 1))) r e' := by
  subst hr; exact fun ρ h => (hf ρ h).bind fun a => rfl
theorem t_r2 {e : α → PyData} {e' : β → PyData} {e'' : γ → PyData} {e3 : δ → PyData} {ra : Res (α × β × γ × δ)} {r : Res γ} (hf : TE L f ra (eP4 e e' e'' e3)) (hr : r = ra.bind fun p => .ok p.2.2.1 := by first | rfl | (simp only [Res.bind_ok, Res.assoc, Res.pure]; done)) : TE L (e2 ixD f (eC (.int 2))) r e'' := by
  subst hr; exact fun ρ h => (hf ρ h).bind fun a => rfl
theorem t_r3 {e : α → PyData} {e' : β → PyData} {e'' : γ → PyData} {e3 : δ → PyData} {ra : Res (α × β × γ × δ)} {r : Res δ} (hf : TE L f ra (eP4 e e' e'' e3)) (hr : r = ra.bind fun p => .ok p.2.2.2 := by first | rfl | (simp only [Res.bind_ok, Res.assoc, Res.pure]; done)) : TE L (e2 ixD f (eC (.int 3))) r e3 := by
  subst hr; exact fun ρ h => (hf ρ h).bind fun a => rfl
end
/-- slices -/
def cutL (xs : List α) (lo hi : Option Int) : List α := (xs.drop (HT.sIx xs.length 0 lo)).take (HT.sIx xs.length xs.length hi - HT.sIx xs.length 0 lo)
theorem cutD_map {e : α → PyData} (xs : List α) (lo hi : Option Int) : cutD (xs.map e) lo hi = (cutL xs lo hi).map e := by
  unfold cutD cutL
  simp [List.map_take, List.map_drop]
theorem cutL_to (xs : List α) (k : Nat) : cutL xs none (some (k : Int)) = xs.take k := by
  unfold cutL
  rw [HT.sIx_none, HT.sIx_nat]
  simp only [List.drop_zero, Nat.sub_zero]
  by_cases h : k ≤ xs.length
  · rw [Nat.min_eq_left h]
  · rw [Nat.min_eq_right (by omega), List.take_of_length_le (Nat.le_refl _), List.take_of_length_le (by omega)]
theorem cutL_from (xs : List α) (k : Nat) : cutL xs (some (k : Int)) none = xs.drop k := by
  unfold cutL
  rw [HT.sIx_none, HT.sIx_nat]
  by_cases h : k ≤ xs.length
  · rw [Nat.min_eq_left h, List.take_of_length_le (by simp)]
  · rw [Nat.min_eq_right (by omega), List.drop_of_length_le (Nat.le_refl _), List.drop_of_length_le (by omega)]; simp
theorem cutL_all (xs : List α) : cutL xs none none = xs := by
  unfold cutL
  rw [HT.sIx_none, HT.sIx_none]
  simp
def cutTR (xs : List α) (lo hi : Option Int) : Res (List α) := if HT.sIx xs.length 0 lo = 0 ∧ HT.sIx xs.length xs.length hi = xs.length then .bad else .ok (cutL xs lo hi)
section
variable {L : Pn} {f : Ro → Res PyData} {l u : Ro → Res (Option Int)} {rl ru : Res (Option Int)}
theorem t_none {r : Res (Option Int)} (hr : r = .ok none := by first | rfl | (simp only [Res.bind_ok, Res.assoc, Res.pure]; done)) : TE L eNone r eId := by
  subst hr; exact fun ρ g => rfl
theorem t_asI {ra : Res Int} {r : Res (Option Int)} (hf : TE L f ra eI) (hr : r = ra.bind fun a => .ok (some a) := by first | rfl | (simp only [Res.bind_ok, Res.assoc, Res.pure]; done)) : TE L (e1 asI f) r eId := by
  subst hr; exact fun ρ h => (hf ρ h).bind fun a => rfl
theorem t_slT {e : α → PyData} {ra r : Res (List α)} (hf : TE L f ra (eL e)) (hl : TE L l rl eId) (hu : TE L u ru eId) (hr : r = ra.bind fun a => rl.bind fun i => ru.bind fun j => .ok (cutL a i j) := by first | rfl | (simp only [Res.bind_ok, Res.assoc, Res.pure]; done)) : TE L (eSl slT f l u) r (eL e) := by
  subst hr
  exact fun ρ h => (hf ρ h).bind fun a => (hl ρ h).bind fun i => (hu ρ h).bind fun j => .ofOp (by show some (PyData.list (cutD (a.map e) i j)) = _; rw [cutD_map]; rfl)
theorem t_slL {e : α → PyData} {ra r : Res (List α)} (hf : TE L f ra (eL e)) (hl : TE L l rl eId) (hu : TE L u ru eId) (hr : r = ra.bind fun a => rl.bind fun i => ru.bind fun j => .ok (cutL a i j) := by first | rfl | (simp only [Res.bind_ok, Res.assoc, Res.pure]; done)) : TE L (eSl slL f l u) r (List.map e) := by
  subst hr
  exact fun ρ h => (hf ρ h).bind fun a => (hl ρ h).bind fun i => (hu ρ h).bind fun j => .ofOp (by show some (cutD (a.map e) i j) = _; rw [cutD_map])
theorem t_slTT {e : α → PyData} {ra r : Res (List α)} (hf : TE L f ra (eT e)) (hl : TE L l rl eId) (hu : TE L u ru eId) (hr : r = ra.bind fun a => rl.bind fun i => ru.bind fun j => cutTR a i j := by first | rfl | (simp only [Res.bind_ok, Res.assoc, Res.pure]; done)) : TE L (eSl slT f l u) r (eT e) := by
  subst hr
  refine fun ρ h => (hf ρ h).bind fun a => (hl ρ h).bind fun i => (hu ρ h).bind fun j => ?_
  unfold cutTR
  by_cases c : HT.sIx a.length 0 i = 0 ∧ HT.sIx a.length a.length j = a.length
  · rw [if_pos c]; trivial
  · rw [if_neg c]
    refine .ofOp ?_
    show (if HT.sIx (a.map e).length 0 i = 0 ∧ HT.sIx (a.map e).length (a.map e).length j = (a.map e).length then none else some (PyData.tuple (cutD (a.map e) i j))) = _
    rw [List.length_map, if_neg c, cutD_map]; rfl
end
theorem op_rev {e : α → PyData} : Op1 revL (eL e) (List.map e) (fun xs => .ok xs.reverse) := fun xs => .ofOp (by show some (xs.map e).reverse = _; rw [List.map_reverse])
theorem b_len {e : α → PyData} : B1 lenD (eL e) eI (fun xs => .ok (xs.length : Int)) := fun xs => .ofOp (by show some (PyData.int (xs.map e).length) = _; rw [List.length_map])
theorem b_lenT {e : α → PyData} : B1 lenD (eT e) eI (fun xs => .ok (xs.length : Int)) := fun xs => .ofOp (by show some (PyData.int (xs.map e).length) = _; rw [List.length_map])
theorem b_lenS : B1 lenD eScr eI (fun xs => .ok (xs.length : Int)) := fun xs => .ofOp (lenD_scr xs)
theorem b_sum : B1 sumD (eL eI) eI (fun xs => .ok xs.sum) := fun xs => .ofOp (sumD_ints xs)
theorem b_max : B1 maxD (eL eI) eI (fun xs => ofO (maxL xs)) := fun xs => by
  show RR _ _ (ofO (maxD [.list (xs.map .int)]))
  rw [maxD_ints]; exact .ofM _
theorem b_min : B1 minD (eL eI) eI (fun xs => ofO (minL xs)) := fun xs => by
  show RR _ _ (ofO (minD [.list (xs.map .int)]))
  rw [minD_ints]; exact .ofM _
theorem b_all : B1 allD (eL eBo) eBo (fun xs => .ok (xs.all id)) := fun xs => .ofOp (by show (boolsO (xs.map .bool)).map _ = _; rw [boolsO_map]; rfl)
theorem b_any : B1 anyD (eL eBo) eBo (fun xs => .ok (xs.any id)) := fun xs => .ofOp (by show (boolsO (xs.map .bool)).map _ = _; rw [boolsO_map]; rfl)
theorem b_list {e : α → PyData} : B1 listN (eL e) (List.map e) (fun xs => .ok xs) := fun xs => rfl
theorem b_listT {e : α → PyData} : B1 listN (eT e) (List.map e) (fun xs => .ok xs) := fun xs => rfl
theorem b_tuple {e : α → PyData} : B1 tupleD (eL e) (eT e) (fun xs => .ok xs) := fun xs => rfl
theorem b_sort : B1 sortedN (eL eI) (List.map eI) (fun xs => .ok (sortI xs)) := fun xs => .ofOp (by
  show (intsO (xs.map .int)).map _ = _
  rw [intsO_map]; rfl)
def ssetR (xs : List Int) : Res (List Int) := if xs.length < 64 then .ok (ssort xs) else .bad
theorem op_sset : Op1 ssetL (eL eI) (List.map eI) ssetR := fun xs => by
  unfold ssetR
  refine RR.iff fun h => ?_
  show (intsO (xs.map .int)).bind _ = _
  rw [intsO_map]; simp [h]
/-! what is walked -/
def rngI (lo : Int) (n : Nat) : List Int := (List.range n).map fun i => lo + (i : Nat)
theorem rngL_map (lo : Int) (n : Nat) : rngL lo n = (rngI lo n).map eI := by simp [rngL, rngI]
def rngR (n : Int) : Res (List Int) := if -4611686018427387904 ≤ n ∧ n ≤ 16777216 then .ok (rngI 0 n.toNat) else .bad
def rng2R (i j : Int) : Res (List Int) := if -4611686018427387904 ≤ i ∧ i < 4611686018427387904 ∧ -4611686018427387904 ≤ j ∧ j < 4611686018427387904 ∧ j - i ≤ 16777216 then .ok (rngI i (j - i).toNat) else .bad
theorem b_rg1 : B1 rg1 eI (List.map eI) rngR := fun n => by
  unfold rngR
  refine RR.iff fun h => ?_
  show (if _ then some _ else none) = _
  rw [if_pos h, rngL_map]
theorem b_rg2 : B2 rg2 eI eI (List.map eI) rng2R := fun i j => by
  unfold rng2R
  refine RR.iff fun h => ?_
  show (if _ then some _ else none) = _
  rw [if_pos h, rngL_map]
def enumI (xs : List α) : List (Int × α) := xs.zipIdx.map fun p => ((p.2 : Int), p.1)
theorem b_enum {e : α → PyData} : B1 enumL (eL e) (List.map (eP eI e)) (fun xs => .ok (enumI xs)) := fun xs => .ofOp (by
  show some ((xs.map e).zipIdx.map fun p => PyData.tuple [.int (p.2 : Nat), p.1]) = _
  unfold enumI
  rw [List.zipIdx_map, List.map_map, List.map_map]
  rfl)
def zipR (xs : List α) (ys : List β) : Res (List (α × β)) := if xs.length ≤ 16777216 then .ok (xs.zip ys) else .bad
theorem b_zip {e : α → PyData} {f : β → PyData} : B2 zipL (eL e) (eL f) (List.map (eP e f)) zipR := fun xs ys => by
  unfold zipR
  refine RR.iff fun h => ?_
  show (if (xs.map e).length ≤ 16777216 then some (((xs.map e).zip (ys.map f)).map fun p => PyData.tuple [p.1, p.2]) else none) = _
  rw [List.length_map, if_pos h, List.zip_map, List.map_map]
  rfl
theorem op_it {e : α → PyData} : Op1 itL (eL e) (List.map e) (fun xs => .ok xs) := fun xs => rfl
theorem op_itT {e : α → PyData} : Op1 itL (eT e) (List.map e) (fun xs => .ok xs) := fun xs => rfl

/-! ### targets -/
def TG (g : PyData → Ro → Option Ro) (d : PyData) (L L' : Pn) : Prop := ∀ ρ, Ag L ρ → ∃ ρ1, g d ρ = some ρ1 ∧ Ag L' ρ1
def TGs (g : List PyData → Ro → Option Ro) (ds : List PyData) (L L' : Pn) : Prop := ∀ ρ, Ag L ρ → ∃ ρ1, g ds ρ = some ρ1 ∧ Ag L' ρ1
theorem tg_set {L : Pn} {i : Nat} {d : PyData} : TG (gSet i) d L (L.set i (some (.val d))) := fun ρ h => ⟨_, rfl, h.set i _⟩
theorem tg_nil {L : Pn} : TGs gsNil [] L L := fun ρ h => ⟨_, rfl, h⟩
theorem tg_cons {L L1 L2 : Pn} {g : PyData → Ro → Option Ro} {gs : List PyData → Ro → Option Ro} {d : PyData} {ds : List PyData} (h1 : TG g d L L1) (h2 : TGs gs ds L1 L2) : TGs (gsCons g gs) (d :: ds) L L2 := fun ρ h => by
  obtain ⟨ρ1, e1, a1⟩ := h1 ρ h
  obtain ⟨ρ2, e2, a2⟩ := h2 ρ1 a1
  exact ⟨ρ2, by rw [gsCons_eq, e1]; exact e2, a2⟩
theorem tg_unp {L L' : Pn} {gs : List PyData → Ro → Option Ro} {d : PyData} {ds : List PyData} (hd : d = .tuple ds) (h : TGs gs ds L L') : TG (gUnp gs) d L L' := fun ρ z => by subst hd; exact h ρ z
theorem tg_unpL {L L' : Pn} {gs : List PyData → Ro → Option Ro} {d : PyData} {ds : List PyData} (hd : d = .list ds) (h : TGs gs ds L L') : TG (gUnp gs) d L L' := fun ρ z => by subst hd; exact h ρ z

/-! ### comprehensions -/
def compR (p : α → Res Bool) (f : α → Res β) : List α → Res (List β)
  | [] => .ok []
  | x :: xs => (p x).hush.bind fun b => if b = true then (f x).hush.bind fun y => (compR p f xs).bind fun ys => .ok (y :: ys) else compR p f xs
theorem compR_flat (p : α → Bool) (f : α → β) : ∀ xs : List α, compR (fun x => .ok (p x)) (fun x => .ok (f x)) xs = .ok ((xs.filter p).map f)
  | [] => rfl
  | x :: xs => by
    unfold compR
    rw [compR_flat p f xs]
    cases h : p x <;> simp [h]
theorem compR_all (f : α → β) (xs : List α) : compR (fun _ => .ok true) (fun x => .ok (f x)) xs = .ok (xs.map f) := by
  rw [compR_flat (fun _ => true) f, List.filter_eq_self.mpr fun _ _ => rfl]
theorem compR_ok {p : α → Res Bool} {f : α → Res β} {q : α → Bool} {g : α → β} : ∀ {xs : List α}, (∀ x ∈ xs, p x = .ok (q x)) → (∀ x ∈ xs, q x = true → f x = .ok (g x)) → compR p f xs = .ok ((xs.filter q).map g)
  | [], _, _ => rfl
  | x :: xs, h1, h2 => by
    have ih := compR_ok (xs := xs) (fun y hy => h1 y (List.mem_cons_of_mem _ hy)) fun y hy => h2 y (List.mem_cons_of_mem _ hy)
    unfold compR
    rw [h1 x (List.mem_cons_self ..), ih]
    cases h : q x with
    | false => simp [h]
    | true => rw [h2 x (List.mem_cons_self ..) h]; simp [h]
theorem mapR_ok {f : α → Res β} {g : α → β} {xs : List α} (h : ∀ x ∈ xs, f x = .ok (g x)) : compR (fun _ => .ok true) f xs = .ok (xs.map g) := by
  rw [compR_ok (q := fun _ => true) (fun _ _ => rfl) fun x hx _ => h x hx, List.filter_eq_self.mpr fun _ _ => rfl]
theorem opt_hush {α' : Type} {e : α → α'} {r : Res α} {m : Res α'} (h : RR r e m) : (∃ a, r = .ok a ∧ m = .ok (e a)) ∨ (r.hush = .bad) := by
  cases r with
  | ok a => exact .inl ⟨a, rfl, h⟩
  | exc c k => exact .inr rfl
  | bad => exact .inr rfl
theorem compF_RR {L0 : Pn} {e : α → PyData} {e' : β → PyData} {g : PyData → Ro → Option Ro} {c : Ro → Res Bool} {f : Ro → Res PyData} {Lx : α → Pn} {p : α → Res Bool} {h : α → Res β}
    (hg : ∀ x, TG g (e x) L0 (Lx x)) (hc : ∀ x, TE (Lx x) c (p x) eId) (hf : ∀ x, TE (Lx x) f (h x) e') (ρ : Ro) (a : Ag L0 ρ) : ∀ xs : List α, RR (compR p h xs) (List.map e') (ofO (compF g c f ρ (xs.map e)))
  | [] => rfl
  | x :: xs => by
    have ih := compF_RR hg hc hf ρ a xs
    obtain ⟨ρ1, g1, a1⟩ := hg x ρ a
    unfold compR
    rw [List.map_cons]
    unfold compF
    rw [g1, Option.bind_some]
    have c1 := hc x ρ1 a1
    have f1 := hf x ρ1 a1
    rcases opt_hush c1 with ⟨b, e1, e2⟩ | e1
    · rw [e1, e2]
      simp only [Res.hush_ok, Res.bind_ok, Option.bind_some, Res.opt_ok]
      cases b with
      | false =>
        simp only [Bool.false_eq_true, if_false]
        exact ih
      | true =>
        simp only [if_true]
        rcases opt_hush f1 with ⟨y, e3, e4⟩ | e3
        · rw [e3, e4]
          simp only [Res.hush_ok, Res.bind_ok, Option.bind_some, Res.opt_ok]
          cases hx : compR p h xs with
          | ok ys =>
            rw [hx] at ih
            have ih : ofO (compF g c f ρ (xs.map e)) = .ok (ys.map e') := ih
            cases z : compF g c f ρ (xs.map e) with
            | none => rw [z] at ih; cases ih
            | some ws => rw [z] at ih; cases ih; rfl
          | exc c' k =>
            rw [hx] at ih
            have ih : ofO (compF g c f ρ (xs.map e)) = .exc c' k := ih
            cases z : compF g c f ρ (xs.map e) with
            | none => rw [z] at ih; cases ih
            | some ws => rw [z] at ih; cases ih
          | bad => trivial
        · rw [e3]; trivial
    · rw [e1]; trivial
section
variable {L : Pn} {own own1 : List Nat} {fi fi1 : Ro → Res (List PyData)} {g g1 : PyData → Ro → Option Ro} {c c1 : Ro → Res Bool} {f : Ro → Res PyData} {ε : Type}
theorem t_comp {e : α → PyData} {e' : β → PyData} {rx : Res (List α)} {r : Res (List β)} (Lx : α → Pn) (p : α → Res Bool) (h : α → Res β) (hi : TE L fi rx (List.map e)) (hg : ∀ x, TG g (e x) (wipeP L own) (Lx x)) (hc : ∀ x, TE (Lx x) c (p x) eId) (hf : ∀ x, TE (Lx x) f (h x) e') (hr : r = rx.bind fun xs => compR p h xs := by first | rfl | (simp only [Res.bind_ok, Res.assoc, Res.pure]; done)) : TE L (eComp own fi g c f) r (List.map e') := by
  subst hr
  exact fun ρ a => (hi ρ a).bind fun xs => compF_RR hg hc hf _ (a.wipe own) xs
theorem t_compP {e : α → PyData} {e' : β → PyData} {rx : Res (List α)} {r : Res (List β)} (Lx : α → Pn) (p : α → Bool) (h : α → β) (hi : TE L fi rx (List.map e)) (hg : ∀ x, TG g (e x) (wipeP L own) (Lx x)) (hc : ∀ x, TE (Lx x) c (.ok (p x)) eId) (hf : ∀ x, TE (Lx x) f (.ok (h x)) e') (hr : r = rx.bind fun xs => .ok ((xs.filter p).map h) := by first | rfl | (simp only [Res.bind_ok, Res.assoc, Res.pure]; done)) : TE L (eComp own fi g c f) r (List.map e') := by
  refine t_comp Lx _ _ hi hg hc hf ?_
  subst hr
  congr 1; funext xs; exact (compR_flat p h xs).symm
theorem t_compM {e : α → PyData} {e' : β → PyData} {rx : Res (List α)} {r : Res (List β)} (Lx : α → Pn) (h : α → β) (hi : TE L fi rx (List.map e)) (hg : ∀ x, TG g (e x) (wipeP L own) (Lx x)) (hf : ∀ x, TE (Lx x) f (.ok (h x)) e') (hr : r = rx.bind fun xs => .ok (xs.map h) := by first | rfl | (simp only [Res.bind_ok, Res.assoc, Res.pure]; done)) : TE L (eComp own fi g eTrue f) r (List.map e') := by
  refine t_comp Lx (fun _ => .ok true) _ hi hg (fun _ => t_true) hf ?_
  subst hr
  congr 1; funext xs; exact (compR_all h xs).symm
/-- two turns -/
def comp2R (p : α → Res Bool) (q : α → Res (List ε)) (p1 : α → ε → Res Bool) (f : α → ε → Res β) : List α → Res (List β)
  | [] => .ok []
  | x :: xs => (p x).hush.bind fun b => if b = true then (q x).hush.bind fun es => (compR (p1 x) (f x) es).hush.bind fun ys => (comp2R p q p1 f xs).bind fun zs => .ok (ys ++ zs) else comp2R p q p1 f xs
theorem wipeP_nil (L : Pn) : wipeP L [] = L := rfl
theorem RR.hushO {α' : Type} {e : α → α'} {r : Res α} {o : Option α'} (h : RR r e (ofO o)) : (∃ a, r = .ok a ∧ o = some (e a)) ∨ r = .bad := by
  cases r with
  | ok a =>
    have h : ofO o = .ok (e a) := h
    cases o with
    | none => cases h
    | some b => cases h; exact .inl ⟨a, rfl, rfl⟩
  | exc c k =>
    have h : ofO o = .exc c k := h
    cases o <;> cases h
  | bad => exact .inr rfl
theorem compF2_RR {L0 : Pn} {e : α → PyData} {e1 : ε → PyData} {e' : β → PyData} {Lx : α → Pn} {Ly : α → ε → Pn} {p : α → Res Bool} {q : α → Res (List ε)} {p1 : α → ε → Res Bool} {h : α → ε → Res β}
    (hg : ∀ x, TG g (e x) L0 (Lx x)) (hc : ∀ x, TE (Lx x) c (p x) eId) (hi : ∀ x, TE (Lx x) fi1 (q x) (List.map e1)) (hg1 : ∀ x y, TG g1 (e1 y) (wipeP (Lx x) own1) (Ly x y)) (hc1 : ∀ x y, TE (Ly x y) c1 (p1 x y) eId) (hf : ∀ x y, TE (Ly x y) f (h x y) e') (ρ : Ro) (a : Ag L0 ρ) : ∀ xs : List α, RR (comp2R p q p1 h xs) (List.map e') (ofO (compF2 g c fi1 own1 g1 c1 f ρ (xs.map e)))
  | [] => rfl
  | x :: xs => by
    have ih := compF2_RR hg hc hi hg1 hc1 hf ρ a xs
    obtain ⟨ρ1, g2, a1⟩ := hg x ρ a
    unfold comp2R
    rw [List.map_cons]
    unfold compF2
    rw [g2, Option.bind_some]
    have k1 := hc x ρ1 a1
    have k2 := hi x ρ1 a1
    rcases opt_hush k1 with ⟨b, z1, z2⟩ | z1
    · rw [z1, z2]
      simp only [Res.hush_ok, Res.bind_ok, Option.bind_some, Res.opt_ok]
      cases b with
      | false =>
        simp only [Bool.false_eq_true, if_false]
        exact ih
      | true =>
        simp only [if_true]
        rcases opt_hush k2 with ⟨es, z3, z4⟩ | z3
        · rw [z3, z4]
          simp only [Res.hush_ok, Res.bind_ok, Option.bind_some, Res.opt_ok]
          have k3 := compF_RR (hg1 x) (hc1 x) (hf x) _ (a1.wipe own1) es
          rcases k3.hushO with ⟨ys, z5, z6⟩ | z5
          · rw [z5, z6]
            simp only [Res.hush_ok, Res.bind_ok, Option.bind_some]
            rcases ih.hushO with ⟨zs, z7, z8⟩ | z7
            · rw [z7, z8]
              show Res.ok _ = Res.ok _
              simp
            · rw [z7]; trivial
          · rw [z5]; trivial
        · rw [z3]; trivial
    · rw [z1]; trivial
theorem t_comp2 {e : α → PyData} {e1 : ε → PyData} {e' : β → PyData} {rx : Res (List α)} {r : Res (List β)} (Lx : α → Pn) (Ly : α → ε → Pn) (p : α → Res Bool) (q : α → Res (List ε)) (p1 : α → ε → Res Bool) (h : α → ε → Res β) (hi0 : TE L fi rx (List.map e))
    (hg : ∀ x, TG g (e x) (wipeP L own) (Lx x)) (hc : ∀ x, TE (Lx x) c (p x) eId) (hi : ∀ x, TE (Lx x) fi1 (q x) (List.map e1)) (hg1 : ∀ x y, TG g1 (e1 y) (wipeP (Lx x) own1) (Ly x y)) (hc1 : ∀ x y, TE (Ly x y) c1 (p1 x y) eId) (hf : ∀ x y, TE (Ly x y) f (h x y) e') (hr : r = rx.bind fun xs => (comp2R p q p1 h xs).bind lenR := by first | rfl | (simp only [Res.bind_ok, Res.assoc, Res.pure]; done)) : TE L (eComp2 own fi g c fi1 own1 g1 c1 f) r (List.map e') := by
  subst hr
  refine fun ρ a => (hi0 ρ a).bind fun xs => ?_
  have := compF2_RR hg hc hi hg1 hc1 hf _ (a.wipe own) xs
  rcases this.hushO with ⟨ys, z1, z2⟩ | z1
  · rw [z1, z2]
    simp only [Res.bind_ok, Option.bind_some]
    unfold lenR lenOk
    rw [List.length_map]
    split <;> first | rfl | trivial
  · rw [z1]; trivial
end
end
end Pf
/-! Ts3: statements by typed functions. -/
namespace Pf
open PySem PySem.Spec PyProof.Rows L2

/-- how a block ends -/
inductive Fl (σ τ : Type) where
  | nx (a : σ)
  | ret (t : τ)
  | bk (a : σ)
def RO {γ : Type} (r : Res γ) (P : γ → Out → Prop) (o : Out) : Prop := match r with
  | .ok c => P c o
  | .exc c k => o = .exc c k
  | .bad => True
def TS {γ : Type} (L : Pn) (s : Ro → Out) (r : Res γ) (P : γ → Out → Prop) : Prop := ∀ ρ, Ag L ρ → RO r P (s ρ)
/-- a def's end -/
def PT {τ : Type} (e : τ → PyData) (t : τ) (o : Out) : Prop := outR o = .ok (e t)
/-- goes on -/
def PN {σ : Type} (E : σ → Pn) (a : σ) (o : Out) : Prop := ∃ ρ, o = .nx ρ ∧ Ag (E a) ρ
/-- goes on, or is left with an answer -/
def PNF {σ τ : Type} (E : σ → Pn) (e : τ → PyData) : Fl σ τ → Out → Prop
  | .nx a, o => ∃ ρ, o = .nx ρ ∧ Ag (E a) ρ
  | .ret t, o => o = .ret (e t)
  | .bk _, _ => False
/-- a turn -/
def PB {σ : Type} (E : σ → Pn) (a : σ) (o : Out) : Prop := ∃ ρ, (o = .nx ρ ∨ o = .ct ρ) ∧ Ag (E a) ρ
def PF {σ τ : Type} (E : σ → Pn) (e : τ → PyData) : Fl σ τ → Out → Prop
  | .nx a, o => ∃ ρ, (o = .nx ρ ∨ o = .ct ρ) ∧ Ag (E a) ρ
  | .ret t, o => o = .ret (e t)
  | .bk a, o => ∃ ρ, o = .bk ρ ∧ Ag (E a) ρ
section
variable {α β γ δ σ τ : Type} {L : Pn} {P : γ → Out → Prop} {rest : Ro → Out} {r : Res γ}
theorem RO.out {β' : Type} {m : Res β'} {ra : Res α} {e : α → β'} {k : α → Res γ} {K : β' → Out} (h : RR ra e m) (hk : ∀ a, RO (k a) P (K (e a))) : RO (ra.bind k) P (m.out K) := by
  cases ra with
  | ok a => have h : m = .ok (e a) := h; subst h; exact hk a
  | exc c k => have h : m = .exc c k := h; subst h; rfl
  | bad => trivial
theorem RO.outSeq {β' : Type} {m : Res β'} {ra : Res α} {e : α → β'} {k : α → Res γ} {K : β' → Out} {rest : Ro → Out} (h : RR ra e m) (hk : ∀ a, RO (k a) P ((K (e a)).seq rest)) : RO (ra.bind k) P ((m.out K).seq rest) := by
  cases ra with
  | ok a => have h : m = .ok (e a) := h; subst h; exact hk a
  | exc c k => have h : m = .exc c k := h; subst h; rfl
  | bad => trivial
theorem s_last {s : Ro → Out} (h : TS L (sSeq s sPass) r P) : TS L s r P := fun ρ a => by
  have := h ρ a
  rw [sSeq_eq] at this
  cases e : s ρ <;> rw [e] at this <;> exact this
theorem s_assoc {s t : Ro → Out} (h : TS L (sSeq s (sSeq t rest)) r P) : TS L (sSeq (sSeq s t) rest) r P := fun ρ a => by
  have := h ρ a
  rw [sSeq_eq] at this
  rw [sSeq_eq, sSeq_eq]
  cases e : s ρ <;> rw [e] at this <;> exact this
theorem s_skip (h : TS L rest r P) : TS L (sSeq sPass rest) r P := h
theorem s_passT {e : γ → PyData} {c : γ} (hc : e c = .none) (hr : r = .ok c := by first | rfl | (simp only [Res.bind_ok, Res.assoc, Res.pure]; done)) : TS L sPass r (PT e) := by
  subst hr; exact fun ρ a => by show outR (.nx ρ) = .ok (e c); rw [hc]; rfl
theorem s_passN {E : γ → Pn} {c : γ} (m : List Bool) (h : mk m L = E c) (hr : r = .ok c := by first | rfl | (simp only [Res.bind_ok, Res.assoc, Res.pure]; done)) : TS L sPass r (PN E) := by
  subst hr; exact fun ρ a => ⟨ρ, rfl, h ▸ a.mk m⟩
theorem s_passB {E : γ → Pn} {c : γ} (m : List Bool) (h : mk m L = E c) (hr : r = .ok c := by first | rfl | (simp only [Res.bind_ok, Res.assoc, Res.pure]; done)) : TS L sPass r (PB E) := by
  subst hr; exact fun ρ a => ⟨ρ, .inl rfl, h ▸ a.mk m⟩
theorem s_ctB {E : γ → Pn} {c : γ} (m : List Bool) (h : mk m L = E c) (hr : r = .ok c := by first | rfl | (simp only [Res.bind_ok, Res.assoc, Res.pure]; done)) : TS L (sSeq (.ct : Ro → Out) rest) r (PB E) := by
  subst hr; exact fun ρ a => ⟨ρ, .inr rfl, h ▸ a.mk m⟩
theorem s_passNF {E : σ → Pn} {e : τ → PyData} {c : σ} {r : Res (Fl σ τ)} (m : List Bool) (h : mk m L = E c) (hr : r = .ok (.nx c) := by first | rfl | (simp only [Res.bind_ok, Res.assoc, Res.pure]; done)) : TS L sPass r (PNF E e) := by
  subst hr; exact fun ρ a => ⟨ρ, rfl, h ▸ a.mk m⟩
theorem s_passF {E : σ → Pn} {e : τ → PyData} {c : σ} {r : Res (Fl σ τ)} (m : List Bool) (h : mk m L = E c) (hr : r = .ok (.nx c) := by first | rfl | (simp only [Res.bind_ok, Res.assoc, Res.pure]; done)) : TS L sPass r (PF E e) := by
  subst hr; exact fun ρ a => ⟨ρ, .inl rfl, h ▸ a.mk m⟩
theorem s_ctF {E : σ → Pn} {e : τ → PyData} {c : σ} {r : Res (Fl σ τ)} (m : List Bool) (h : mk m L = E c) (hr : r = .ok (.nx c) := by first | rfl | (simp only [Res.bind_ok, Res.assoc, Res.pure]; done)) : TS L (sSeq (.ct : Ro → Out) rest) r (PF E e) := by
  subst hr; exact fun ρ a => ⟨ρ, .inr rfl, h ▸ a.mk m⟩
theorem s_bkF {E : σ → Pn} {e : τ → PyData} {c : σ} {r : Res (Fl σ τ)} (m : List Bool) (h : mk m L = E c) (hr : r = .ok (.bk c) := by first | rfl | (simp only [Res.bind_ok, Res.assoc, Res.pure]; done)) : TS L (sSeq (.bk : Ro → Out) rest) r (PF E e) := by
  subst hr; exact fun ρ a => ⟨ρ, rfl, h ▸ a.mk m⟩
theorem s_set {f : Ro → Res PyData} {i : Nat} {e : α → PyData} {ra : Res α} {k : α → Res γ} (hr : r = ra.bind k) (hf : TE L f ra e) (hk : ∀ a, TS (L.set i (some (.val (e a)))) rest (k a) P) : TS L (sSeq (sSet i f) rest) r P := by
  subst hr; exact fun ρ a => RO.outSeq (hf ρ a) fun x => hk x _ (a.set i _)
theorem s_setN {f : Ro → Res (List PyData)} {i : Nat} {e : α → PyData} {ra : Res (List α)} {k : List α → Res γ} (hr : r = ra.bind k) (hf : TE L f ra (List.map e)) (hk : ∀ a, TS (L.set i (some (.own (List.map e a)))) rest (k a) P) : TS L (sSeq (sSetN i f) rest) r P := by
  subst hr; exact fun ρ a => RO.outSeq (hf ρ a) fun x => hk x _ (a.set i _)
theorem s_asg {f : Ro → Res PyData} {g : PyData → Ro → Option Ro} {e : α → PyData} {La : α → Pn} {ra : Res α} {k : α → Res γ} (hr : r = ra.bind k) (hf : TE L f ra e) (hg : ∀ a, TG g (e a) L (La a)) (hk : ∀ a, TS (La a) rest (k a) P) : TS L (sSeq (sAsg g f) rest) r P := by
  subst hr
  refine fun ρ a => RO.outSeq (hf ρ a) fun x => ?_
  obtain ⟨ρ1, e1, a1⟩ := hg x ρ a
  rw [e1]
  exact hk x ρ1 a1
theorem s_expr {f : Ro → Res PyData} {e : α → PyData} {ra : Res α} {k : α → Res γ} (hr : r = ra.bind k) (hf : TE L f ra e) (hk : ∀ a, TS L rest (k a) P) : TS L (sSeq (sExpr f) rest) r P := by
  subst hr; exact fun ρ a => RO.outSeq (hf ρ a) fun x => hk x ρ a
theorem s_ret {f : Ro → Res PyData} {e : γ → PyData} (hf : TE L f r e) : TS L (sSeq (sRet f) rest) r (PT e) := fun ρ a => by
  have := hf ρ a
  show RO r (PT e) (((f ρ).out Out.ret).seq rest)
  cases r with
  | ok c => have q : f ρ = .ok (e c) := this; rw [q]; rfl
  | exc c k => have q : f ρ = .exc c k := this; rw [q]; rfl
  | bad => trivial
theorem s_retNF {f : Ro → Res PyData} {E : σ → Pn} {e : τ → PyData} {ra : Res τ} {r : Res (Fl σ τ)} (hf : TE L f ra e) (hr : r = ra.bind fun t => .ok (.ret t) := by first | rfl | (simp only [Res.bind_ok, Res.assoc, Res.pure]; done)) : TS L (sSeq (sRet f) rest) r (PNF E e) := by
  subst hr; exact fun ρ a => RO.outSeq (hf ρ a) fun x => rfl
theorem s_retF {f : Ro → Res PyData} {E : σ → Pn} {e : τ → PyData} {ra : Res τ} {r : Res (Fl σ τ)} (hf : TE L f ra e) (hr : r = ra.bind fun t => .ok (.ret t) := by first | rfl | (simp only [Res.bind_ok, Res.assoc, Res.pure]; done)) : TS L (sSeq (sRet f) rest) r (PF E e) := by
  subst hr; exact fun ρ a => RO.outSeq (hf ρ a) fun x => rfl
theorem s_retNone {e : γ → PyData} {c : γ} (hc : e c = .none) (hr : r = .ok c := by first | rfl | (simp only [Res.bind_ok, Res.assoc, Res.pure]; done)) : TS L (sSeq sRetN rest) r (PT e) := by
  subst hr; exact fun ρ a => by show outR (.ret .none) = .ok (e c); rw [hc]; rfl
theorem s_raise {f : Ro → Res PyData} {c : Str} {ra : Res Int} (hf : TE L f ra eI) (hr : r = ra.bind fun k => .exc c k := by first | rfl | (simp only [Res.bind_ok, Res.assoc, Res.pure]; done)) : TS L (sSeq (sRaise c f) rest) r P := by
  subst hr; exact fun ρ a => RO.outSeq (hf ρ a) fun x => rfl
theorem s_if {c : Ro → Res Bool} {A B : Ro → Out} {rc : Res Bool} {ra rb : Res γ} (hr : r = rc.bind fun b => if b = true then ra else rb) (hc : TE L c rc eId) (hA : TS L (sSeq A rest) ra P) (hB : TS L (sSeq B rest) rb P) : TS L (sSeq (sIf c A B) rest) r P := by
  subst hr
  refine fun ρ a => RO.outSeq (hc ρ a) fun b => ?_
  cases b
  · exact hB ρ a
  · exact hA ρ a
theorem s_join {s : Ro → Out} {E : σ → Pn} {ra : Res σ} {k : σ → Res γ} (hr : r = ra.bind k) (hs : TS L s ra (PN E)) (hk : ∀ a, TS (E a) rest (k a) P) : TS L (sSeq s rest) r P := by
  subst hr
  intro ρ a
  have := hs ρ a
  rw [sSeq_eq]
  cases ra with
  | ok x => obtain ⟨ρ1, e1, a1⟩ := this; rw [e1]; exact hk x ρ1 a1
  | exc c k => have q : s ρ = .exc c k := this; rw [q]; rfl
  | bad => trivial
/-- what an answer of an inner block is of the outer one -/
def RetOk (P : γ → Out → Prop) (e : τ → PyData) (w : τ → Res γ) : Prop := ∀ t, RO (w t) P (.ret (e t))
theorem retT {e : τ → PyData} : RetOk (PT e) e (fun t => .ok t) := fun t => rfl
theorem retNF {E : σ → Pn} {e : τ → PyData} : RetOk (PNF E e) e (fun t => .ok (.ret t)) := fun t => rfl
theorem retF {E : σ → Pn} {e : τ → PyData} : RetOk (PF E e) e (fun t => .ok (.ret t)) := fun t => rfl
def seqF {σ τ γ : Type} (r : Res (Fl σ τ)) (w : τ → Res γ) (k : σ → Res γ) : Res γ := r.bind fun
  | .nx a => k a
  | .ret t => w t
  | .bk _ => .bad
theorem s_joinF {s : Ro → Out} {E : σ → Pn} {e : τ → PyData} {ra : Res (Fl σ τ)} {w : τ → Res γ} {k : σ → Res γ} (hr : r = seqF ra w k) (hs : TS L s ra (PNF E e)) (hw : RetOk P e w) (hk : ∀ a, TS (E a) rest (k a) P) : TS L (sSeq s rest) r P := by
  subst hr
  intro ρ a
  have := hs ρ a
  rw [sSeq_eq]
  unfold seqF
  cases ra with
  | ok x => cases x with
    | nx x => obtain ⟨ρ1, e1, a1⟩ := this; rw [e1]; exact hk x ρ1 a1
    | ret t => have q : s ρ = .ret (e t) := this; rw [q]; exact hw t
    | bk x => exact this.elim
  | exc c k => have q : s ρ = .exc c k := this; rw [q]; rfl
  | bad => trivial

/-! ### loops -/
def foldR {σ α : Type} (step : σ → α → Res σ) : σ → List α → Res σ
  | a, [] => .ok a
  | a, x :: xs => (step a x).bind fun a' => foldR step a' xs
theorem for_RO {E : σ → Pn} {e : α → PyData} {g : PyData → Ro → Option Ro} {b : Ro → Out} {Lx : σ → α → Pn} {step : σ → α → Res σ} (hg : ∀ a x, TG g (e x) (E a) (Lx a x)) (hb : ∀ a x, TS (Lx a x) b (step a x) (PB E)) : ∀ (xs : List α) (a : σ) (ρ : Ro), Ag (E a) ρ → RO (foldR step a xs) (PN E) (forF g b (xs.map e) ρ)
  | [], a, ρ, h => ⟨ρ, rfl, h⟩
  | x :: xs, a, ρ, h => by
    obtain ⟨ρ1, e1, a1⟩ := hg a x ρ h
    have := hb a x ρ1 a1
    unfold foldR
    rw [List.map_cons]
    unfold forF
    rw [e1, oNx_some, Out.seq_nx]
    cases hs : step a x with
    | ok a' =>
      rw [hs] at this
      obtain ⟨ρ2, e2, a2⟩ := this
      have ih := for_RO hg hb xs a' ρ2 a2
      rcases e2 with e2 | e2 <;> rw [e2] <;> exact ih
    | exc c k =>
      rw [hs] at this
      have q : b ρ1 = .exc c k := this
      rw [q]; rfl
    | bad => trivial
theorem s_for {E : σ → Pn} {e : α → PyData} {fi : Ro → Res (List PyData)} {g : PyData → Ro → Option Ro} {b : Ro → Out} {Lx : σ → α → Pn} {step : σ → α → Res σ} {k : σ → Res γ} {rx : Res (List α)} {a0 : σ} (hr : r = rx.bind fun xs => (foldR step a0 xs).bind k) (m : List Bool) (hi : TE L fi rx (List.map e)) (h0 : mk m L = E a0) (hg : ∀ a x, TG g (e x) (E a) (Lx a x)) (hb : ∀ a x, TS (Lx a x) b (step a x) (PB E)) (hk : ∀ a, TS (E a) rest (k a) P) : TS L (sSeq (sFor fi g b) rest) r P := by
  subst hr
  refine fun ρ a => RO.outSeq (hi ρ a) fun xs => ?_
  have := for_RO hg hb xs a0 ρ (h0 ▸ a.mk m)
  cases hs : foldR step a0 xs with
  | ok x =>
    rw [hs] at this
    obtain ⟨ρ1, e1, a1⟩ := this
    rw [e1]; exact hk x ρ1 a1
  | exc c k =>
    rw [hs] at this
    have q : forF g b (xs.map e) ρ = .exc c k := this
    rw [q]; rfl
  | bad => trivial
def forR {σ τ α : Type} (step : σ → α → Res (Fl σ τ)) : σ → List α → Res (Fl σ τ)
  | a, [] => .ok (.nx a)
  | a, x :: xs => (step a x).bind fun
    | .nx a' => forR step a' xs
    | .ret t => .ok (.ret t)
    | .bk a' => .ok (.nx a')
theorem forF_RO {E : σ → Pn} {e : α → PyData} {eR : τ → PyData} {g : PyData → Ro → Option Ro} {b : Ro → Out} {Lx : σ → α → Pn} {step : σ → α → Res (Fl σ τ)} (hg : ∀ a x, TG g (e x) (E a) (Lx a x)) (hb : ∀ a x, TS (Lx a x) b (step a x) (PF E eR)) : ∀ (xs : List α) (a : σ) (ρ : Ro), Ag (E a) ρ → RO (forR step a xs) (PNF E eR) (forF g b (xs.map e) ρ)
  | [], a, ρ, h => ⟨ρ, rfl, h⟩
  | x :: xs, a, ρ, h => by
    obtain ⟨ρ1, e1, a1⟩ := hg a x ρ h
    have := hb a x ρ1 a1
    unfold forR
    rw [List.map_cons]
    unfold forF
    rw [e1, oNx_some, Out.seq_nx]
    cases hs : step a x with
    | ok a' =>
      rw [hs] at this
      cases a' with
      | nx a' =>
        obtain ⟨ρ2, e2, a2⟩ := this
        have ih := forF_RO hg hb xs a' ρ2 a2
        rcases e2 with e2 | e2 <;> rw [e2] <;> exact ih
      | ret t =>
        have q : b ρ1 = .ret (eR t) := this
        rw [q]; rfl
      | bk a' =>
        obtain ⟨ρ2, e2, a2⟩ := this
        rw [e2]; exact ⟨ρ2, rfl, a2⟩
    | exc c k =>
      rw [hs] at this
      have q : b ρ1 = .exc c k := this
      rw [q]; rfl
    | bad => trivial
theorem s_forF {E : σ → Pn} {e : α → PyData} {eR : τ → PyData} {fi : Ro → Res (List PyData)} {g : PyData → Ro → Option Ro} {b : Ro → Out} {Lx : σ → α → Pn} {step : σ → α → Res (Fl σ τ)} {k : σ → Res γ} {w : τ → Res γ} {rx : Res (List α)} {a0 : σ} (hr : r = rx.bind fun xs => seqF (forR step a0 xs) w k) (m : List Bool) (hi : TE L fi rx (List.map e)) (h0 : mk m L = E a0) (hg : ∀ a x, TG g (e x) (E a) (Lx a x)) (hb : ∀ a x, TS (Lx a x) b (step a x) (PF E eR)) (hw : RetOk P eR w) (hk : ∀ a, TS (E a) rest (k a) P) : TS L (sSeq (sFor fi g b) rest) r P := by
  subst hr
  refine fun ρ a => RO.outSeq (hi ρ a) fun xs => ?_
  have := forF_RO hg hb xs a0 ρ (h0 ▸ a.mk m)
  unfold seqF
  cases hs : forR step a0 xs with
  | ok x =>
    rw [hs] at this
    cases x with
    | nx x => obtain ⟨ρ1, e1, a1⟩ := this; rw [e1]; exact hk x ρ1 a1
    | ret t =>
      have q : forF g b (xs.map e) ρ = .ret (eR t) := this
      rw [q]; exact hw t
    | bk x => exact this.elim
  | exc c k =>
    rw [hs] at this
    have q : forF g b (xs.map e) ρ = .exc c k := this
    rw [q]; rfl
  | bad => trivial
def whileR {σ : Type} (c : σ → Res Bool) (step : σ → Res σ) : Nat → σ → Res σ
  | 0, _ => .bad
  | n + 1, a => (c a).bind fun b => if b = true then (step a).bind fun a' => whileR c step n a' else .ok a
theorem while_RO {E : σ → Pn} {c : Ro → Res Bool} {b : Ro → Out} {rc : σ → Res Bool} {step : σ → Res σ} (hc : ∀ a, TE (E a) c (rc a) eId) (hb : ∀ a, TS (E a) b (step a) (PB E)) : ∀ (n : Nat) (a : σ) (ρ : Ro), Ag (E a) ρ → RO (whileR rc step n a) (PN E) (whF c b n ρ)
  | 0, a, ρ, h => trivial
  | n + 1, a, ρ, h => by
    unfold whileR whF
    refine RO.out (hc a ρ h) fun z => ?_
    cases z with
    | false => exact ⟨ρ, rfl, h⟩
    | true =>
      simp only [if_true]
      have := hb a ρ h
      cases hs : step a with
      | ok a' =>
        rw [hs] at this
        obtain ⟨ρ2, e2, a2⟩ := this
        have ih := while_RO hc hb n a' ρ2 a2
        rcases e2 with e2 | e2 <;> rw [e2] <;> exact ih
      | exc c' k =>
        rw [hs] at this
        have q : b ρ = .exc c' k := this
        rw [q]; rfl
      | bad => trivial
theorem s_while {E : σ → Pn} {c : Ro → Res Bool} {b : Ro → Out} {rc : σ → Res Bool} {step : σ → Res σ} {k : σ → Res γ} {a0 : σ} {n : Nat} (hr : r = (whileR rc step n a0).bind k) (m : List Bool) (h0 : mk m L = E a0) (hc : ∀ a, TE (E a) c (rc a) eId) (hb : ∀ a, TS (E a) b (step a) (PB E)) (hk : ∀ a, TS (E a) rest (k a) P) : TS L (sSeq (sWhile n c b) rest) r P := by
  subst hr
  intro ρ a
  have := while_RO hc hb n a0 ρ (h0 ▸ a.mk m)
  show RO _ _ ((whF c b n ρ).seq rest)
  cases hs : whileR rc step n a0 with
  | ok x =>
    rw [hs] at this
    obtain ⟨ρ1, e1, a1⟩ := this
    rw [e1]; exact hk x ρ1 a1
  | exc c' k =>
    rw [hs] at this
    have q : whF c b n ρ = .exc c' k := this
    rw [q]; rfl
  | bad => trivial
def whileRF {σ τ : Type} (c : σ → Res Bool) (step : σ → Res (Fl σ τ)) : Nat → σ → Res (Fl σ τ)
  | 0, _ => .bad
  | n + 1, a => (c a).bind fun b => if b = true then (step a).bind fun
    | .nx a' => whileRF c step n a'
    | .ret t => .ok (.ret t)
    | .bk a' => .ok (.nx a') else .ok (.nx a)
theorem whileF_RO {E : σ → Pn} {eR : τ → PyData} {c : Ro → Res Bool} {b : Ro → Out} {rc : σ → Res Bool} {step : σ → Res (Fl σ τ)} (hc : ∀ a, TE (E a) c (rc a) eId) (hb : ∀ a, TS (E a) b (step a) (PF E eR)) : ∀ (n : Nat) (a : σ) (ρ : Ro), Ag (E a) ρ → RO (whileRF rc step n a) (PNF E eR) (whF c b n ρ)
  | 0, a, ρ, h => trivial
  | n + 1, a, ρ, h => by
    unfold whileRF whF
    refine RO.out (hc a ρ h) fun z => ?_
    cases z with
    | false => exact ⟨ρ, rfl, h⟩
    | true =>
      simp only [if_true]
      have := hb a ρ h
      cases hs : step a with
      | ok a' =>
        rw [hs] at this
        cases a' with
        | nx a' =>
          obtain ⟨ρ2, e2, a2⟩ := this
          have ih := whileF_RO hc hb n a' ρ2 a2
          rcases e2 with e2 | e2 <;> rw [e2] <;> exact ih
        | ret t => have q : b ρ = .ret (eR t) := this; rw [q]; rfl
        | bk a' => obtain ⟨ρ2, e2, a2⟩ := this; rw [e2]; exact ⟨ρ2, rfl, a2⟩
      | exc c' k =>
        rw [hs] at this
        have q : b ρ = .exc c' k := this
        rw [q]; rfl
      | bad => trivial
theorem s_whileF {E : σ → Pn} {eR : τ → PyData} {c : Ro → Res Bool} {b : Ro → Out} {rc : σ → Res Bool} {step : σ → Res (Fl σ τ)} {k : σ → Res γ} {w : τ → Res γ} {a0 : σ} {n : Nat} (hr : r = seqF (whileRF rc step n a0) w k) (m : List Bool) (h0 : mk m L = E a0) (hc : ∀ a, TE (E a) c (rc a) eId) (hb : ∀ a, TS (E a) b (step a) (PF E eR)) (hw : RetOk P eR w) (hk : ∀ a, TS (E a) rest (k a) P) : TS L (sSeq (sWhile n c b) rest) r P := by
  subst hr
  intro ρ a
  have := whileF_RO hc hb n a0 ρ (h0 ▸ a.mk m)
  show RO _ _ ((whF c b n ρ).seq rest)
  unfold seqF
  cases hs : whileRF rc step n a0 with
  | ok x =>
    rw [hs] at this
    cases x with
    | nx x => obtain ⟨ρ1, e1, a1⟩ := this; rw [e1]; exact hk x ρ1 a1
    | ret t => have q : whF c b n ρ = .ret (eR t) := this; rw [q]; exact hw t
    | bk x => exact this.elim
  | exc c' k =>
    rw [hs] at this
    have q : whF c b n ρ = .exc c' k := this
    rw [q]; rfl
  | bad => trivial

/-! ### own lists -/
def appR {α : Type} (xs : List α) (x : α) : Res (List α) := if xs.length < 16777216 then .ok (xs ++ [x]) else .bad
theorem s_app {f : Ro → Res PyData} {i : Nat} {e : α → PyData} {xs : List α} {ra : Res α} {k : List α → Res γ} (hr : r = ra.bind fun a => (appR xs a).bind k) (hL : L[i]? = some (some (.own (List.map e xs)))) (hf : TE L f ra e) (hk : ∀ a, TS (L.set i (some (.own (List.map e a)))) rest (k a) P) : TS L (sSeq (sApp i f) rest) r P := by
  subst hr
  intro ρ a
  show RO _ _ ((sApp i f ρ).seq rest)
  rw [sApp_eq f (a.get hL)]
  refine RO.outSeq (hf ρ a) fun x => ?_
  unfold appR
  rw [List.length_map]
  split
  · have := hk (xs ++ [x]) _ (a.set i (.own (List.map e (xs ++ [x]))))
    simpa using this
  · trivial
def putR {α : Type} (xs : List α) (i : Int) (x : α) : Res (List α) := match ixN xs.length i with
  | some j => .ok (xs.set j x)
  | none => .bad
theorem s_put {f fi : Ro → Res PyData} {i : Nat} {e : α → PyData} {xs : List α} {ra : Res α} {ri : Res Int} {k : List α → Res γ} (hr : r = ra.bind fun a => ri.bind fun j => (putR xs j a).bind k) (hL : L[i]? = some (some (.own (List.map e xs)))) (hi : TE L fi ri eI) (hf : TE L f ra e) (hk : ∀ a, TS (L.set i (some (.own (List.map e a)))) rest (k a) P) : TS L (sSeq (sPut i fi f) rest) r P := by
  subst hr
  intro ρ a
  show RO _ _ ((sPut i fi f ρ).seq rest)
  unfold sPut
  rw [a.get hL]
  refine RO.outSeq (hf ρ a) fun x => ?_
  refine RO.outSeq (hi ρ a) fun j => ?_
  unfold putR
  simp only [List.length_map]
  cases ixN xs.length j with
  | none => trivial
  | some n =>
    simp only [Res.bind_ok, Out.seq_nx]
    have := hk (xs.set n x) _ (a.set i (.own (List.map e (xs.set n x))))
    simpa [List.map_set] using this
theorem s_frz0 {s : Ro → Out} (h : TS L (sSeq s rest) r P) : TS L (sSeq (sFrz [] s) rest) r P := h
theorem s_frz1 {i : Nat} {is : List Nat} {s : Ro → Out} {e : α → PyData} {xs : List α} (hL : L[i]? = some (some (.own (List.map e xs)))) (h : TS (L.set i (some (.val (eL e xs)))) (sSeq (sFrz is s) rest) r P) : TS L (sSeq (sFrz (i :: is) s) rest) r P := fun ρ a => by
  have := h _ (a.set i (.val (eL e xs)))
  show RO r P ((s (frz is (frz1 i ρ))).seq rest)
  rw [frz1_own (a.get hL)]
  exact this
theorem s_frz1v {i : Nat} {is : List Nat} {s : Ro → Out} {d : PyData} (hL : L[i]? = some (some (.val d))) (h : TS L (sSeq (sFrz is s) rest) r P) : TS L (sSeq (sFrz (i :: is) s) rest) r P := fun ρ a => by
  have := h _ a
  show RO r P ((s (frz is (frz1 i ρ))).seq rest)
  rw [frz1_val (a.get hL)]
  exact this
/-- several names at once -/
def TM {α : Type} (L : Pn) (f : Ro → Res (List Ent)) (r : Res α) (e : α → List Ent) : Prop := ∀ ρ, Ag L ρ → RR r e (f ρ)
theorem tm_nil {r : Res Unit} (hr : r = .ok () := by first | rfl | (simp only [Res.bind_ok, Res.assoc, Res.pure]; done)) : TM L mNil r (fun _ => []) := by
  subst hr; exact fun ρ _ => rfl
theorem tm_val {f : Ro → Res PyData} {g : Ro → Res (List Ent)} {e : α → PyData} {es : β → List Ent} {ra : Res α} {rb : Res β} {r : Res (α × β)} (hf : TE L f ra e) (hg : TM L g rb es) (hr : r = ra.bind fun a => rb.bind fun b => .ok (a, b) := by first | rfl | (simp only [Res.bind_ok, Res.assoc, Res.pure]; done)) : TM L (mVal f g) r (fun p => .val (e p.1) :: es p.2) := by
  subst hr; exact fun ρ h => (hf ρ h).bind fun a => (hg ρ h).bind fun b => rfl
theorem tm_own {f : Ro → Res (List PyData)} {g : Ro → Res (List Ent)} {e : α → PyData} {es : β → List Ent} {ra : Res (List α)} {rb : Res β} {r : Res (List α × β)} (hf : TE L f ra (List.map e)) (hg : TM L g rb es) (hr : r = ra.bind fun a => rb.bind fun b => .ok (a, b) := by first | rfl | (simp only [Res.bind_ok, Res.assoc, Res.pure]; done)) : TM L (mOwn f g) r (fun p => .own (p.1.map e) :: es p.2) := by
  subst hr; exact fun ρ h => (hf ρ h).bind fun a => (hg ρ h).bind fun b => rfl
def setP (L : Pn) : List Nat → List Ent → Pn
  | i :: is, e :: es => setP (L.set i (some e.sl)) is es
  | _, _ => L
theorem Ag.setE : ∀ (is : List Nat) (es : List Ent) {L : Pn} {ρ : Ro}, Ag L ρ → Ag (setP L is es) (setE ρ is es)
  | i :: is, e :: es, L, ρ, a => by
    show Ag (setP (L.set i (some e.sl)) is es) (Pf.setE (ρ.set i e.sl) is es)
    exact Ag.setE is es (a.set i _)
  | [], es, L, ρ, a => by rw [setE_nil]; exact a
  | _ :: _, [], L, ρ, a => a
theorem s_par {is : List Nat} {f : Ro → Res (List Ent)} {es : α → List Ent} {ra : Res α} {k : α → Res γ} (hr : r = ra.bind k) (hf : TM L f ra es) (hl : ∀ a, (es a).length = is.length) (hk : ∀ a, TS (setP L is (es a)) rest (k a) P) : TS L (sSeq (sParM is f) rest) r P := by
  subst hr
  refine fun ρ a => RO.outSeq (hf ρ a) fun x => ?_
  rw [if_pos (hl x)]
  exact hk x _ (a.setE is (es x))
/-- tries -/
def hdR {τ : Type} : List (Str × (Int → τ)) → Str → Int → Option τ
  | [], _, _ => none
  | (x, h) :: l, c, k => if c = x then some (h k) else hdR l c k
def tryR {σ τ : Type} (cs : List Str) (hs : List (Str × (Int → τ))) (r : Res (Fl σ τ)) : Res (Fl σ τ) := match r with
  | .exc c k => if cs.contains c = true then (match hdR hs c k with
    | some t => .ok (.ret t)
    | none => .exc c k) else .bad
  | o => o
theorem hdl_hdR {e : τ → PyData} (c : Str) (k : Int) : ∀ hs : List (Str × (Int → τ)), hdl (hs.map fun p => (p.1, fun k => e (p.2 k))) c k = match hdR hs c k with
    | some t => .ret (e t)
    | none => .exc c k
  | [] => rfl
  | (x, h) :: l => by
    rw [List.map_cons]
    unfold hdl hdR
    by_cases q : c = x
    · rw [if_pos q, if_pos q]
    · rw [if_neg q, if_neg q]; exact hdl_hdR c k l
theorem s_try {s : Ro → Out} {cs : List Str} {hs : List (Str × (Int → PyData))} {hs' : List (Str × (Int → τ))} {E : σ → Pn} {e : τ → PyData} {ra : Res (Fl σ τ)} {w : τ → Res γ} {k : σ → Res γ} (hr : r = seqF (tryR cs hs' ra) w k) (hh : hs = hs'.map fun p => (p.1, fun k => e (p.2 k))) (h : TS L s ra (PNF E e)) (hw : RetOk P e w) (hk : ∀ a, TS (E a) rest (k a) P) : TS L (sSeq (sTryC cs s hs) rest) r P := by
  subst hr hh
  refine s_joinF (ra := tryR cs hs' ra) rfl (fun ρ a => ?_) hw hk
  have := h ρ a
  unfold sTryC tryR
  cases ra with
  | ok x => cases x with
    | nx x => obtain ⟨ρ1, e1, a1⟩ := this; rw [e1]; exact ⟨ρ1, rfl, a1⟩
    | ret t => have q : s ρ = .ret (e t) := this; rw [q]; rfl
    | bk x => exact this.elim
  | exc c k =>
    have q : s ρ = .exc c k := this
    rw [q]
    simp only
    split
    · rw [hdl_hdR]
      cases hdR hs' c k <;> rfl
    · trivial
  | bad => trivial
theorem RR.dyn (r : Res PyData) : RR r eD r := by cases r <;> first | rfl | trivial
theorem t_i {n : Int} {r : Res Int} (hr : r = .ok n := by first | rfl | (simp only [Res.bind_ok, Res.assoc, Res.pure]; done)) : TE L (eC (.int n)) r eI := by subst hr; exact fun _ _ => rfl
theorem t_bl {n : Bool} {r : Res Bool} (hr : r = .ok n := by first | rfl | (simp only [Res.bind_ok, Res.assoc, Res.pure]; done)) : TE L (eC (.bool n)) r eBo := by subst hr; exact fun _ _ => rfl
theorem t_st {n : Str} {r : Res Str} (hr : r = .ok n := by first | rfl | (simp only [Res.bind_ok, Res.assoc, Res.pure]; done)) : TE L (eC (.str n)) r eS := by subst hr; exact fun _ _ => rfl
theorem t_non {r : Res Unit} (hr : r = .ok () := by first | rfl | (simp only [Res.bind_ok, Res.assoc, Res.pure]; done)) : TE L (eC .none) r eU := by subst hr; exact fun _ _ => rfl
theorem t_nonO {e : α → PyData} {r : Res (Option α)} (hr : r = .ok none := by first | rfl | (simp only [Res.bind_ok, Res.assoc, Res.pure]; done)) : TE L (eC .none) r (eO e) := by subst hr; exact fun _ _ => rfl
end
theorem ag_un : ∀ j : Nat, Ag (List.replicate j none) (List.replicate j .un)
  | 0 => trivial
  | j + 1 => ⟨fun _ e => (nomatch e), ag_un j⟩
theorem ag_args : ∀ (xs : List PyData) (j : Nat), Ag ((xs.map fun x => some (Sl.val x)) ++ List.replicate j none) (xs.map .val ++ List.replicate j .un)
  | [], j => ag_un j
  | x :: xs, j => ⟨fun _ e => by cases e; rfl, ag_args xs j⟩
theorem t_def {γ : Type} {n j : Nat} {g : Ro → Out} {r : Res γ} {e : γ → PyData} {xs : List PyData} {L : Pn} (hn : xs.length = n) (hL : L = (xs.map fun x => some (Sl.val x)) ++ List.replicate j none) (h : TS L g r (PT e)) : RR r e (mDef n j g xs) := by
  have := h _ (hL ▸ ag_args xs j)
  rw [mDef_eq, if_pos hn]
  cases r with
  | ok c => exact this
  | exc c k =>
    have q : g (xs.map .val ++ List.replicate j .un) = .exc c k := this
    rw [q]; rfl
  | bad => trivial
end Pf
/-! Ts4: orders: sorted, max, min of typed data. -/
namespace Pf
open PySem PySem.Spec PyProof.Rows L2
section
variable {α β γ δ : Type}
def ltI (a b : Int) : Bool := decide (a < b)
def ltL [DecidableEq α] (lt : α → α → Bool) : List α → List α → Bool
  | [], [] => false
  | [], _ :: _ => true
  | _ :: _, [] => false
  | x :: xs, y :: ys => if x = y then ltL lt xs ys else lt x y
def ltP [DecidableEq α] (l1 : α → α → Bool) (l2 : β → β → Bool) (p q : α × β) : Bool := if p.1 = q.1 then l2 p.2 q.2 else l1 p.1 q.1
def ltP3 [DecidableEq α] [DecidableEq β] (l1 : α → α → Bool) (l2 : β → β → Bool) (l3 : γ → γ → Bool) (p q : α × β × γ) : Bool := if p.1 = q.1 then (if p.2.1 = q.2.1 then l3 p.2.2 q.2.2 else l2 p.2.1 q.2.1) else l1 p.1 q.1
structure LO (e : α → PyData) (lt : α → α → Bool) : Prop where
  al : ∀ a b, PySem.W.alike (e a) (e b) = true
  ls : ∀ a b, PySem.W.dataLt (e a) (e b) = lt a b
  nn : ∀ a, isNo (e a) = false
  ir : ∀ a, lt a a = false
theorem lo_I : LO eI ltI := ⟨fun _ _ => by simp [PySem.W.alike], fun a b => PySem.W.dataLt_int a b, fun _ => rfl, fun a => by simp [ltI]⟩
theorem ltL_ir [DecidableEq α] {lt : α → α → Bool} : ∀ xs : List α, ltL lt xs xs = false
  | [] => rfl
  | x :: xs => by unfold ltL; rw [if_pos rfl]; exact ltL_ir xs
theorem alikeAll_map {e : α → PyData} (h : ∀ a b, PySem.W.alike (e a) (e b) = true) : ∀ xs ys : List α, PySem.W.alikeAll (xs.map e) (ys.map e) = true
  | [], [] => rfl
  | [], _ :: _ => rfl
  | _ :: _, [] => rfl
  | x :: xs, y :: ys => by simp [PySem.W.alikeAll, h x y, alikeAll_map h xs ys]
theorem lexAll_map [DecidableEq α] {e : α → PyData} {lt : α → α → Bool} {d : Nat} [G : GE e d] (h : LO e lt) : ∀ xs ys : List α, PyProof.Rows.lexLt PyProof.Rows.itemOrd (PySem.W.keyToksAll (xs.map e)) (PySem.W.keyToksAll (ys.map e)) = ltL lt xs ys
  | [], [] => by rw [List.map_nil]; exact PyProof.Rows.lex_irrefl _
  | [], y :: ys => by
    have : PyProof.Rows.itemLt (Sum.inl 0) (Sum.inl 1) = true := by decide
    simp [PySem.W.keyToksAll, ltL, PyProof.Rows.lexLt, this]
  | x :: xs, [] => by
    have h1 : PyProof.Rows.itemLt (Sum.inl 1) (Sum.inl 0) = false := by decide
    have h2 : PyProof.Rows.itemLt (Sum.inl 0) (Sum.inl 1) = true := by decide
    simp [PySem.W.keyToksAll, ltL, PyProof.Rows.lexLt, h1, h2]
  | x :: xs, y :: ys => by
    rw [List.map_cons, List.map_cons, PySem.W.dataLt_cons (h.al x y), GE.eqd, lexAll_map h xs ys, h.ls]
    rw [show ltL lt (x :: xs) (y :: ys) = if x = y then ltL lt xs ys else lt x y from rfl]
    by_cases q : x = y
    · rw [if_pos (by simpa using q), if_pos q]
    · rw [if_neg (by simpa using q), if_neg q]
theorem lo_L [DecidableEq α] {e : α → PyData} {lt : α → α → Bool} {d : Nat} [G : GE e d] (h : LO e lt) : LO (eL e) (ltL lt) := ⟨fun a b => by simp only [eL, PySem.W.alike]; exact alikeAll_map h.al a b, fun a b => by rw [eL, eL, PySem.W.dataLt_list]; exact lexAll_map h a b, fun _ => rfl, ltL_ir⟩
theorem lo_T [DecidableEq α] {e : α → PyData} {lt : α → α → Bool} {d : Nat} [G : GE e d] (h : LO e lt) : LO (eT e) (ltL lt) := ⟨fun a b => by simp only [eT, PySem.W.alike]; exact alikeAll_map h.al a b, fun a b => by rw [eT, eT, PySem.W.dataLt_tuple]; exact lexAll_map h a b, fun _ => rfl, ltL_ir⟩
theorem lo_P [DecidableEq α] [DecidableEq β] {e : α → PyData} {f : β → PyData} {l1 : α → α → Bool} {l2 : β → β → Bool} {d d' : Nat} [GE e d] [GE f d'] (h1 : LO e l1) (h2 : LO f l2) : LO (eP e f) (ltP l1 l2) := ⟨fun a b => by simp [eP, PySem.W.alike, PySem.W.alikeAll, h1.al, h2.al], fun a b => by
  rw [eP, eP, PySem.W.dataLt_pair (h1.al _ _) (h2.al _ _), GE.eqd, GE.eqd, h1.ls, h2.ls]
  unfold ltP
  by_cases q : a.1 = b.1
  · rw [if_pos (by simpa using q), if_pos q]
    by_cases q2 : a.2 = b.2
    · rw [if_pos (by simpa using q2), q2, h2.ir]
    · rw [if_neg (by simpa using q2)]
  · rw [if_neg (by simpa using q), if_neg q], fun _ => rfl, fun a => by unfold ltP; rw [if_pos rfl]; exact h2.ir _⟩
theorem lo_P3 [DecidableEq α] [DecidableEq β] [DecidableEq γ] {e : α → PyData} {f : β → PyData} {g : γ → PyData} {l1 : α → α → Bool} {l2 : β → β → Bool} {l3 : γ → γ → Bool} {d d' d'' : Nat} [GE e d] [GE f d'] [GE g d''] (h1 : LO e l1) (h2 : LO f l2) (h3 : LO g l3) : LO (eP3 e f g) (ltP3 l1 l2 l3) := ⟨fun a b => by simp [eP3, PySem.W.alike, PySem.W.alikeAll, h1.al, h2.al, h3.al], fun a b => by
  rw [eP3, eP3, PySem.W.dataLt_tuple, PySem.W.dataLt_cons (h1.al _ _), PySem.W.dataLt_cons (h2.al _ _), PySem.W.dataLt_cons (h3.al _ _), GE.eqd, GE.eqd, GE.eqd, h1.ls, h2.ls, h3.ls]
  unfold ltP3
  by_cases q : a.1 = b.1
  · rw [if_pos (by simpa using q), if_pos q]
    by_cases q2 : a.2.1 = b.2.1
    · rw [if_pos (by simpa using q2), if_pos q2]
      by_cases q3 : a.2.2 = b.2.2
      · rw [if_pos (by simpa using q3), q3, h3.ir]; exact PyProof.Rows.lex_irrefl _
      · rw [if_neg (by simpa using q3)]
    · rw [if_neg (by simpa using q2), if_neg q2]
  · rw [if_neg (by simpa using q), if_neg q], fun _ => rfl, fun a => by unfold ltP3; rw [if_pos rfl, if_pos rfl]; exact h3.ir _⟩
/-- sorted -/
def sortT (lt : α → α → Bool) (xs : List α) : List α := xs.mergeSort fun a b => !lt b a
def sortER (e : α → PyData) (lt : α → α → Bool) (xs : List α) : Res (List α) := if ((xs.map e).all isTup1 || (xs.map e).all notTup) = true then .ok (sortT lt xs) else .bad
theorem b_sortT {e : α → PyData} {lt : α → α → Bool} {d : Nat} [GE e d] (h : LO e lt) (hd : d ≤ 64 := by decide) : B1 sortTN (eL e) (List.map e) (sortER e lt) := fun xs => by
  unfold sortER
  refine RR.iff fun hk => ?_
  have hs : okSort (xs.map e) = true := by
    unfold okSort
    rw [hk]
    simp only [List.all_map, Bool.true_and, Bool.and_eq_true, List.all_eq_true, Function.comp_apply]
    exact ⟨fun a _ b _ => h.al a b, fun a _ => GE.sh hd a⟩
  show (if okSort (xs.map e) = true then some (sortD (xs.map e)) else none) = _
  rw [if_pos hs]
  unfold sortD sortT
  rw [List.map_mergeSort (s := fun a b => !PySem.W.dataLt b a)]
  intro a _ b _
  rw [h.ls]
theorem sortER_L {e : α → PyData} {lt : List α → List α → Bool} (xs : List (List α)) : sortER (eL e) lt xs = .ok (sortT lt xs) := by
  unfold sortER
  rw [if_pos]
  rw [Bool.or_eq_true]
  exact .inr (by simp [eL, notTup])
theorem sortER_P {e : α → PyData} {f : β → PyData} {lt : α × β → α × β → Bool} (xs : List (α × β)) : sortER (eP e f) lt xs = .ok (sortT lt xs) := by
  unfold sortER
  rw [if_pos]
  rw [Bool.or_eq_true]
  exact .inl (by simp [eP, isTup1])
theorem sortER_P3 {e : α → PyData} {f : β → PyData} {g : γ → PyData} {lt : α × β × γ → α × β × γ → Bool} (xs : List (α × β × γ)) : sortER (eP3 e f g) lt xs = .ok (sortT lt xs) := by
  unfold sortER
  rw [if_pos]
  rw [Bool.or_eq_true]
  exact .inl (by simp [eP3, isTup1])
/-- max, min -/
def maxT (lt : α → α → Bool) : List α → Option α
  | [] => none
  | x :: xs => some (xs.foldl (fun a y => if lt a y = true then y else a) x)
def minT (lt : α → α → Bool) : List α → Option α
  | [] => none
  | x :: xs => some (xs.foldl (fun a y => if lt y a = true then y else a) x)
def maxER (e : α → PyData) (lt : α → α → Bool) (xs : List α) : Res α := if xs.length ≤ 16777216 then ofO (maxT lt xs) else .bad
def minER (e : α → PyData) (lt : α → α → Bool) (xs : List α) : Res α := if xs.length ≤ 16777216 then ofO (minT lt xs) else .bad
theorem okCmp_map {e : α → PyData} {lt : α → α → Bool} {d : Nat} [GE e d] (h : LO e lt) (hd : d ≤ 64) (xs : List α) : okCmp (xs.map e) = true := by
  unfold okCmp
  simp only [List.all_map, List.all_eq_true, Function.comp_apply, Bool.and_eq_true]
  exact fun a _ => ⟨⟨fun b _ => h.al a b, GE.sh hd a⟩, by rw [h.nn]; rfl⟩
theorem fold_map {e : α → PyData} (f : PyData → PyData → Bool) (g : α → α → Bool) (h : ∀ a b, f (e a) (e b) = g a b) : ∀ (xs : List α) (x : α), (xs.map e).foldl (fun a y => if f y a = true then y else a) (e x) = e (xs.foldl (fun a y => if g y a = true then y else a) x)
  | [], x => rfl
  | y :: xs, x => by
    simp only [List.map_cons, List.foldl_cons]
    rw [h]
    by_cases q : g y x = true
    · rw [if_pos q, if_pos q]; exact fold_map f g h xs y
    · rw [if_neg q, if_neg q]; exact fold_map f g h xs x
theorem best_map {e : α → PyData} (f : PyData → PyData → Bool) (g : α → α → Bool) (h : ∀ a b, f (e a) (e b) = g a b) (x : α) (xs : List α) : ((x :: xs).map e)[argBest (fun i j => f (((x :: xs).map e).getD i .none) (((x :: xs).map e).getD j .none)) (((x :: xs).map e).length - 1)]? = some (e (xs.foldl (fun a y => if g y a = true then y else a) x)) := by
  have hb := PySem.W.argBest_fold f .none (e x) (xs.map e) (xs.map e).length (Nat.le_refl _)
  rw [List.take_length, fold_map f g h] at hb
  have hl : ((x :: xs).map e).length - 1 = (xs.map e).length := by simp
  rw [hl, List.map_cons]
  obtain ⟨h1, h2⟩ := hb
  generalize argBest (fun i j => f ((e x :: xs.map e).getD i .none) ((e x :: xs.map e).getD j .none)) (xs.map e).length = n at h1 h2
  have hn : n < (e x :: xs.map e).length := by
    rw [List.length_cons]; omega
  rw [List.getElem?_eq_getElem hn, ← h2, List.getD_eq_getElem?_getD, List.getElem?_eq_getElem hn]
  rfl
theorem b_maxT {e : α → PyData} {lt : α → α → Bool} {d : Nat} [GE e d] (h : LO e lt) (hd : d ≤ 64 := by decide) : B1 maxTD (eL e) e (maxER e lt) := fun xs => by
  unfold maxER
  by_cases hl : xs.length ≤ 16777216
  · rw [if_pos hl]
    cases xs with
    | nil => trivial
    | cons x xs =>
      refine RR.ofOp ?_
      show (if okCmp ((x :: xs).map e) = true ∧ ((x :: xs).map e).length ≤ 16777216 then _ else none) = _
      rw [if_pos ⟨okCmp_map h hd _, by rw [List.length_map]; exact hl⟩]
      exact best_map (fun a b => PySem.W.dataLt b a) (fun a b => lt b a) (fun a b => h.ls b a) x xs
  · rw [if_neg hl]; trivial
theorem b_minT {e : α → PyData} {lt : α → α → Bool} {d : Nat} [GE e d] (h : LO e lt) (hd : d ≤ 64 := by decide) : B1 minTD (eL e) e (minER e lt) := fun xs => by
  unfold minER
  by_cases hl : xs.length ≤ 16777216
  · rw [if_pos hl]
    cases xs with
    | nil => trivial
    | cons x xs =>
      refine RR.ofOp ?_
      show (if okCmp ((x :: xs).map e) = true ∧ ((x :: xs).map e).length ≤ 16777216 then _ else none) = _
      rw [if_pos ⟨okCmp_map h hd _, by rw [List.length_map]; exact hl⟩]
      exact best_map (fun a b => PySem.W.dataLt a b) (fun a b => lt a b) (fun a b => h.ls a b) x xs
  · rw [if_neg hl]; trivial
end
end Pf
/-! TyC: the laws' shared helpers, typed. -/
namespace TyC
open PySem PySem.Spec PyProof.Rows L2 Pf LawC
abbrev eF : Int × Int → PyData := eP eI eI
theorem eF_eq (p : Int × Int) : eF p = frD p := rfl
def drawsF (ns : List Int) : List Int := match m__law_draws [scr ns] with
  | .ok (.list ds) => (intsO ds).getD []
  | _ => []
def s__law_draws (ns : List Int) : Res (List Int) := if ns.length ≤ 63 then .ok (drawsF ns) else .bad
theorem drawsF_ok (ns : List Int) (h : ns.length ≤ 63) : m__law_draws [scr ns] = .ok (intsD (drawsF ns)) ∧ Dr (drawsF ns) := by
  obtain ⟨ds, h1, h2⟩ := draws_ok ns h
  have : drawsF ns = ds := by
    unfold drawsF
    rw [h1]
    show (intsO (ds.map .int)).getD [] = ds
    rw [intsO_map]; rfl
  rw [this]; exact ⟨h1, h2⟩
theorem t__law_draws (ns : List Int) : RR (s__law_draws ns) (eL eI) (LawC.m__law_draws [eScr ns]) := by
  unfold s__law_draws
  by_cases h : ns.length ≤ 63
  · rw [if_pos h]; exact (drawsF_ok ns h).1
  · rw [if_neg h]; trivial
def s__law_mix (ds : List Int) (k many : Int) : Res Int := if 0 ≤ k ∧ k < 1000000 ∧ 0 < many ∧ (∀ x ∈ ds, 0 ≤ x ∧ x < 65536) then .ok (mixF ds k many) else .bad
theorem t__law_mix (ds : List Int) (k many : Int) : RR (s__law_mix ds k many) eI (LawC.m__law_mix [eL eI ds, eI k, eI many]) := by
  unfold s__law_mix
  split
  · rename_i h; exact (mixF_ok h.1 h.2.1 h.2.2.1 h.2.2.2).1
  · trivial
def s__law_common (a b : Int) : Res Int := if b.natAbs < 2 ^ 200 then .ok (max 1 (Int.gcd a b)) else .bad
theorem t__law_common (a b : Int) : RR (s__law_common a b) eI (LawC.m__law_common [eI a, eI b]) := by
  unfold s__law_common
  split
  · rename_i h; exact lcommon_ok a b h
  · trivial
def s_common (a b : Int) : Res Int := if b.natAbs < 2 ^ 200 then .ok (Int.gcd a b) else .bad
theorem t_common (a b : Int) : RR (s_common a b) eI (LawC.m_common [eI a, eI b]) := by
  unfold s_common
  split
  · rename_i h; exact common_ok a b h
  · trivial
def s__law_low (n d : Int) : Res (Int × Int) := if 0 < d ∧ d < 2 ^ 200 then .ok (low n d) else .bad
theorem t__law_low (n d : Int) : RR (s__law_low n d) eF (LawC.m__law_low [eI n, eI d]) := by
  unfold s__law_low
  split
  · rename_i h; exact llow_ok n d h.1 h.2
  · trivial
def s_plain (n d : Int) : Res (Int × Int) := if 0 < d ∧ d < 2 ^ 200 then .ok (low n d) else .bad
theorem t_plain (n d : Int) : RR (s_plain n d) eF (LawC.m_plain [eI n, eI d]) := by
  unfold s_plain
  split
  · rename_i h; exact plain_ok n d h.1 h.2
  · trivial
def s__law_add (p q : Int × Int) : Res (Int × Int) := if okMul p.1 q.2 = true ∧ okMul q.1 p.2 = true ∧ okMul p.2 q.2 = true ∧ 0 < p.2 * q.2 ∧ p.2 * q.2 < 2 ^ 200 then .ok (low (p.1 * q.2 + q.1 * p.2) (p.2 * q.2)) else .bad
theorem t__law_add (p q : Int × Int) : RR (s__law_add p q) eF (LawC.m__law_add [eF p, eF q]) := by
  unfold s__law_add
  split
  · rename_i h; exact ladd_ok p q h.1 h.2.1 h.2.2.1 h.2.2.2.1 h.2.2.2.2
  · trivial
def s__law_times (p q : Int × Int) : Res (Int × Int) := if okMul p.1 q.1 = true ∧ okMul p.2 q.2 = true ∧ 0 < p.2 * q.2 ∧ p.2 * q.2 < 2 ^ 200 then .ok (low (p.1 * q.1) (p.2 * q.2)) else .bad
theorem t__law_times (p q : Int × Int) : RR (s__law_times p q) eF (LawC.m__law_times [eF p, eF q]) := by
  unfold s__law_times
  split
  · rename_i h; exact ltimes_ok p q h.1 h.2.1 h.2.2.1 h.2.2.2
  · trivial
def s__law_sum (ps : List (Int × Int)) : Res (Int × Int) := foldR s__law_add (0, 1) ps
end TyC
/-! TyP: what typed functions reckon. -/
namespace Pf
open PySem PySem.Spec PyProof.Rows L2 LawC
section
variable {α β γ σ τ : Type}
@[simp] theorem seqF_nx (a : σ) (w : τ → Res γ) (k : σ → Res γ) : seqF (.ok (.nx a)) w k = k a := rfl
@[simp] theorem seqF_ret (t : τ) (w : τ → Res γ) (k : σ → Res γ) : seqF (.ok (.ret t)) w k = w t := rfl
@[simp] theorem foldR_nil (step : σ → α → Res σ) (a : σ) : foldR step a [] = .ok a := rfl
@[simp] theorem foldR_cons (step : σ → α → Res σ) (a : σ) (x : α) (xs : List α) : foldR step a (x :: xs) = (step a x).bind fun a' => foldR step a' xs := rfl
@[simp] theorem forR_nil (step : σ → α → Res (Fl σ τ)) (a : σ) : forR step a [] = .ok (.nx a) := rfl
theorem forR_cons_nx {step : σ → α → Res (Fl σ τ)} {a a' : σ} {x : α} {xs : List α} (h : step a x = .ok (.nx a')) : forR step a (x :: xs) = forR step a' xs := by
  rw [forR, h]; rfl
theorem forR_inv {step : σ → α → Res (Fl σ τ)} (I : List α → σ → Prop) : ∀ (xs : List α) (a : σ), I xs a → (∀ x ys a, x ∈ xs → I (x :: ys) a → ∃ a', step a x = .ok (.nx a') ∧ I ys a') → ∃ a', forR step a xs = .ok (.nx a') ∧ I [] a'
  | [], a, h, _ => ⟨a, rfl, h⟩
  | x :: xs, a, h, hs => by
    obtain ⟨a', e, h'⟩ := hs x xs a (List.mem_cons_self ..) h
    obtain ⟨b, e2, h2⟩ := forR_inv I xs a' h' fun y ys a hy => hs y ys a (List.mem_cons_of_mem _ hy)
    exact ⟨b, by rw [forR_cons_nx e]; exact e2, h2⟩
theorem forR_all {step : Unit → α → Res (Fl Unit τ)} {xs : List α} (h : ∀ x ∈ xs, step () x = .ok (.nx ())) : forR step () xs = .ok (.nx ()) := by
  induction xs with
  | nil => rfl
  | cons x xs ih => rw [forR_cons_nx (h x (List.mem_cons_self ..))]; exact ih fun y hy => h y (List.mem_cons_of_mem _ hy)
theorem foldR_inv {step : σ → α → Res σ} (I : List α → σ → Prop) : ∀ (xs : List α) (a : σ), I xs a → (∀ x ys a, x ∈ xs → I (x :: ys) a → ∃ a', step a x = .ok a' ∧ I ys a') → ∃ a', foldR step a xs = .ok a' ∧ I [] a'
  | [], a, h, _ => ⟨a, rfl, h⟩
  | x :: xs, a, h, hs => by
    obtain ⟨a', e, h'⟩ := hs x xs a (List.mem_cons_self ..) h
    obtain ⟨b, e2, h2⟩ := foldR_inv I xs a' h' fun y ys a hy => hs y ys a (List.mem_cons_of_mem _ hy)
    exact ⟨b, by rw [foldR_cons, e]; exact e2, h2⟩
/-- a loop as a plain fold -/
theorem foldR_eq {step : σ → α → Res σ} {f : σ → α → σ} (I : σ → Prop) : ∀ (xs : List α) (a : σ), I a → (∀ x a, x ∈ xs → I a → step a x = .ok (f a x) ∧ I (f a x)) → foldR step a xs = .ok (xs.foldl f a) ∧ I (xs.foldl f a)
  | [], a, h, _ => ⟨rfl, h⟩
  | x :: xs, a, h, hs => by
    obtain ⟨e, h'⟩ := hs x a (List.mem_cons_self ..) h
    have := foldR_eq I xs (f a x) h' fun y a hy => hs y a (List.mem_cons_of_mem _ hy)
    exact ⟨by rw [foldR_cons, e]; exact this.1, this.2⟩
theorem foldR_all {step : Unit → α → Res Unit} {xs : List α} (h : ∀ x ∈ xs, step () x = .ok ()) : foldR step () xs = .ok () := by
  induction xs with
  | nil => rfl
  | cons x xs ih => rw [foldR_cons, h x (List.mem_cons_self ..)]; exact ih fun y hy => h y (List.mem_cons_of_mem _ hy)
theorem rngR_ok {n : Int} (h : n ≤ 16777216) (h0 : -4611686018427387904 ≤ n := by omega) : rngR n = .ok (rngI 0 n.toNat) := by
  unfold rngR; rw [if_pos ⟨h0, h⟩]
theorem rngR_nat {n : Nat} (h : n ≤ 16777216) : rngR (n : Int) = .ok ((List.range n).map fun i => ((i : Nat) : Int)) := by
  rw [rngR_ok (by omega)]; simp [rngI]
theorem mem_rngI {lo : Int} {n : Nat} {x : Int} : x ∈ rngI lo n ↔ lo ≤ x ∧ x < lo + n := by
  unfold rngI
  simp only [List.mem_map, List.mem_range]
  constructor
  · rintro ⟨i, h, rfl⟩; omega
  · intro h; exact ⟨(x - lo).toNat, by omega, by omega⟩
theorem rng2R_ok {i j : Int} (h1 : -4611686018427387904 ≤ i) (h2 : i < 4611686018427387904) (h3 : -4611686018427387904 ≤ j) (h4 : j < 4611686018427387904) (h5 : j - i ≤ 16777216) : rng2R i j = .ok (rngI i (j - i).toNat) := by
  unfold rng2R; rw [if_pos ⟨h1, h2, h3, h4, h5⟩]
theorem mulR_ok {a b : Int} (h : okMul a b = true) : mulR a b = .ok (a * b) := by unfold mulR; rw [if_pos h]
theorem mulR_sm {a b : Int} (ha : a.natAbs < 2 ^ 1000) (hb : b.natAbs < 2 ^ 1000) : mulR a b = .ok (a * b) := mulR_ok (okMul_of ha hb)
/-- below 2^60 both -/
theorem mulR_60 {a b : Int} (ha : -1152921504606846976 < a ∧ a < 1152921504606846976) (hb : -1152921504606846976 < b ∧ b < 1152921504606846976) : mulR a b = .ok (a * b) := mulR_ok (okMul_of (k := 60) (l := 60) (by omega) (by omega))
theorem catR_ok {xs ys : List α} (h : xs.length + ys.length ≤ 16777216) : catR xs ys = .ok (xs ++ ys) := by unfold catR; rw [if_pos h]
theorem lenR_ok {xs : List α} (h : xs.length ≤ 16777216) : lenR xs = .ok xs := by unfold lenR; rw [if_pos h]
theorem appR_ok {xs : List α} {x : α} (h : xs.length < 16777216) : appR xs x = .ok (xs ++ [x]) := by unfold appR; rw [if_pos h]
theorem atR_nat {xs : List α} {k : Nat} (h : k < xs.length) : atR xs (k : Int) = .ok xs[k] := by
  unfold atR; rw [Pf.atI_nat, List.getElem?_eq_getElem h]; rfl
theorem atR_D {xs : List α} {k : Nat} (d : α) (h : k < xs.length) : atR xs (k : Int) = .ok (xs.getD k d) := by
  rw [atR_nat h, List.getD_eq_getElem?_getD, List.getElem?_eq_getElem h]; rfl
theorem atR_int {xs : List α} {i : Int} (h0 : 0 ≤ i) (h : i < xs.length) (d : α) : atR xs i = .ok (xs.getD i.toNat d) := by
  obtain ⟨k, rfl⟩ : ∃ k : Nat, i = k := ⟨i.toNat, by omega⟩
  rw [atR_D d (by omega)]; rfl
theorem atR_mem {xs : List α} {i : Int} (h0 : 0 ≤ i) (h : i < xs.length) : ∃ x, atR xs i = .ok x ∧ x ∈ xs := by
  obtain ⟨k, rfl⟩ : ∃ k : Nat, i = k := ⟨i.toNat, by omega⟩
  exact ⟨_, atR_nat (by omega), List.getElem_mem _⟩
theorem atR_last {xs : List α} (h : 0 < xs.length) : atR xs (-1) = .ok (xs[xs.length - 1]'(by omega)) := by
  unfold atR atI ixN
  rw [if_neg (by omega), if_pos (by omega)]
  have : (-1 + (xs.length : Int)).toNat = xs.length - 1 := by omega
  simp only [Option.bind_some, this]
  rw [List.getElem?_eq_getElem (by omega)]; rfl
theorem zipR_ok {xs : List α} {ys : List β} (h : xs.length ≤ 16777216) : zipR xs ys = .ok (xs.zip ys) := by unfold zipR; rw [if_pos h]
theorem repR_ok {xs : List α} {k : Nat} (h : k < 16777216) (h2 : xs.length * k ≤ 16777216) : repR xs (k : Int) = .ok (List.replicate k xs).flatten := by
  unfold repR; rw [if_pos ⟨by omega, by omega, by simpa using h2⟩]; simp
theorem repR_1 {x : α} {k : Nat} (h : k < 16777216) : repR [x] (k : Int) = .ok (List.replicate k x) := by
  rw [repR_ok h (by simp; omega)]
  congr 1
  induction k with
  | zero => rfl
  | succ k ih => rw [List.replicate_succ, List.flatten_cons, ih (by omega), List.replicate_succ]; rfl
end
theorem mixR_ok {ds : List Int} (h : Dr ds) {k many : Int} (hk : 0 ≤ k) (hk2 : k < 1000000) (hm : 0 < many) : TyC.s__law_mix ds k many = .ok (mixF ds k many) ∧ 0 ≤ mixF ds k many ∧ mixF ds k many < many := by
  unfold TyC.s__law_mix
  rw [if_pos ⟨hk, hk2, hm, h.2⟩]
  exact ⟨rfl, (mixF_ok hk hk2 hm h.2).2⟩
theorem drawsR_ok {ns : List Int} (h : ns.length ≤ 63) : TyC.s__law_draws ns = .ok (TyC.drawsF ns) ∧ Dr (TyC.drawsF ns) := by
  unfold TyC.s__law_draws
  rw [if_pos h]
  exact ⟨rfl, (TyC.drawsF_ok ns h).2⟩
theorem lowR_ok {n d : Int} (h : 0 < d) (h2 : d < 2 ^ 200) : TyC.s__law_low n d = .ok (low n d) := by unfold TyC.s__law_low; rw [if_pos ⟨h, h2⟩]
theorem plainR_ok {n d : Int} (h : 0 < d) (h2 : d < 2 ^ 200) : TyC.s_plain n d = .ok (low n d) := by unfold TyC.s_plain; rw [if_pos ⟨h, h2⟩]
end Pf
namespace K03
open PySem PySem.Spec PyProof.Rows L2 Pf
abbrev PP : Program := (PySem.Challenge.rw_truebidsbest_k03_main_money_given_back_b).prog
def top (i : Nat) : Stmt := PySem.Challenge.pw_truebidsbest_k03_main_money_given_back_b.main.body.getD i (.Pass ⟨0, 0, 0, 0⟩)
def initOf : Stmt → Stmt
  | .ClassDef _ _ _ b _ _ _ _ _ _ _ => b.getD 0 (.Pass ⟨0, 0, 0, 0⟩)
  | s => s
abbrev initSt : Stmt := initOf (top 1)
abbrev st_common : Stmt := top 8
abbrev st_plain : Stmt := top 9
abbrev st_is_worth : Stmt := top 15
abbrev st_check_worths : Stmt := top 16
abbrev st_check_word : Stmt := top 17
abbrev st_price_of : Stmt := top 18
abbrev st_winners_of : Stmt := top 19
abbrev st_income_in : Stmt := top 20
abbrev st_income_of : Stmt := top 21
abbrev st_sets_of : Stmt := top 22
abbrev st_most_weight : Stmt := top 23
abbrev st_weights_in : Stmt := top 24
abbrev st_weights_of : Stmt := top 25
abbrev st_back_to : Stmt := top 26
abbrev st_given_back : Stmt := top 27
abbrev st_left_over : Stmt := top 28
abbrev st_gain_with : Stmt := top 29
abbrev st__law_draws : Stmt := top 31
abbrev st__law_mix : Stmt := top 32
abbrev st__law_common : Stmt := top 33
abbrev st__law_low : Stmt := top 34
abbrev st__law_add : Stmt := top 35
abbrev st__law_times : Stmt := top 36
abbrev st__law_sum : Stmt := top 37
abbrev st__law_sets : Stmt := top 38
abbrev st__law_weights : Stmt := top 39
abbrev st__law_back : Stmt := top 40
abbrev st__law_price : Stmt := top 41
abbrev st__law_gain : Stmt := top 42
abbrev st__law_word : Stmt := top 43
abbrev st_law : Stmt := top 44
def dd_common : He.DefD := ⟨("common", none), "common", "common", defArgs st_common, defBody st_common, defScope st_common, [], []⟩
def dd_plain : He.DefD := ⟨("plain", none), "plain", "plain", defArgs st_plain, defBody st_plain, defScope st_plain, [], []⟩
def dd_is_worth : He.DefD := ⟨("is_worth", none), "is_worth", "is_worth", defArgs st_is_worth, defBody st_is_worth, defScope st_is_worth, [], []⟩
def dd_check_worths : He.DefD := ⟨("check_worths", none), "check_worths", "check_worths", defArgs st_check_worths, defBody st_check_worths, defScope st_check_worths, [], []⟩
def dd_check_word : He.DefD := ⟨("check_word", none), "check_word", "check_word", defArgs st_check_word, defBody st_check_word, defScope st_check_word, [], []⟩
def dd_price_of : He.DefD := ⟨("price_of", none), "price_of", "price_of", defArgs st_price_of, defBody st_price_of, defScope st_price_of, [], []⟩
def dd_winners_of : He.DefD := ⟨("winners_of", none), "winners_of", "winners_of", defArgs st_winners_of, defBody st_winners_of, defScope st_winners_of, [], []⟩
def dd_income_in : He.DefD := ⟨("income_in", none), "income_in", "income_in", defArgs st_income_in, defBody st_income_in, defScope st_income_in, [], []⟩
def dd_income_of : He.DefD := ⟨("income_of", none), "income_of", "income_of", defArgs st_income_of, defBody st_income_of, defScope st_income_of, [], []⟩
def dd_sets_of : He.DefD := ⟨("sets_of", none), "sets_of", "sets_of", defArgs st_sets_of, defBody st_sets_of, defScope st_sets_of, [], []⟩
def dd_most_weight : He.DefD := ⟨("most_weight", none), "most_weight", "most_weight", defArgs st_most_weight, defBody st_most_weight, defScope st_most_weight, [], []⟩
def dd_weights_in : He.DefD := ⟨("weights_in", none), "weights_in", "weights_in", defArgs st_weights_in, defBody st_weights_in, defScope st_weights_in, [], []⟩
def dd_weights_of : He.DefD := ⟨("weights_of", none), "weights_of", "weights_of", defArgs st_weights_of, defBody st_weights_of, defScope st_weights_of, [], []⟩
def dd_back_to : He.DefD := ⟨("back_to", none), "back_to", "back_to", defArgs st_back_to, defBody st_back_to, defScope st_back_to, [], []⟩
def dd_given_back : He.DefD := ⟨("given_back", none), "given_back", "given_back", defArgs st_given_back, defBody st_given_back, defScope st_given_back, [], []⟩
def dd_left_over : He.DefD := ⟨("left_over", none), "left_over", "left_over", defArgs st_left_over, defBody st_left_over, defScope st_left_over, [], []⟩
def dd_gain_with : He.DefD := ⟨("gain_with", none), "gain_with", "gain_with", defArgs st_gain_with, defBody st_gain_with, defScope st_gain_with, [], []⟩
def dd__law_draws : He.DefD := ⟨("_law_draws", none), "_law_draws", "_law_draws", defArgs st__law_draws, defBody st__law_draws, defScope st__law_draws, [], []⟩
def dd__law_mix : He.DefD := ⟨("_law_mix", none), "_law_mix", "_law_mix", defArgs st__law_mix, defBody st__law_mix, defScope st__law_mix, [], []⟩
def dd__law_common : He.DefD := ⟨("_law_common", none), "_law_common", "_law_common", defArgs st__law_common, defBody st__law_common, defScope st__law_common, [], []⟩
def dd__law_low : He.DefD := ⟨("_law_low", none), "_law_low", "_law_low", defArgs st__law_low, defBody st__law_low, defScope st__law_low, [], []⟩
def dd__law_add : He.DefD := ⟨("_law_add", none), "_law_add", "_law_add", defArgs st__law_add, defBody st__law_add, defScope st__law_add, [], []⟩
def dd__law_times : He.DefD := ⟨("_law_times", none), "_law_times", "_law_times", defArgs st__law_times, defBody st__law_times, defScope st__law_times, [], []⟩
def dd__law_sum : He.DefD := ⟨("_law_sum", none), "_law_sum", "_law_sum", defArgs st__law_sum, defBody st__law_sum, defScope st__law_sum, [], []⟩
def dd__law_sets : He.DefD := ⟨("_law_sets", none), "_law_sets", "_law_sets", defArgs st__law_sets, defBody st__law_sets, defScope st__law_sets, [], []⟩
def dd__law_weights : He.DefD := ⟨("_law_weights", none), "_law_weights", "_law_weights", defArgs st__law_weights, defBody st__law_weights, defScope st__law_weights, [], []⟩
def dd__law_back : He.DefD := ⟨("_law_back", none), "_law_back", "_law_back", defArgs st__law_back, defBody st__law_back, defScope st__law_back, [], []⟩
def dd__law_price : He.DefD := ⟨("_law_price", none), "_law_price", "_law_price", defArgs st__law_price, defBody st__law_price, defScope st__law_price, [], []⟩
def dd__law_gain : He.DefD := ⟨("_law_gain", none), "_law_gain", "_law_gain", defArgs st__law_gain, defBody st__law_gain, defScope st__law_gain, [], []⟩
def dd__law_word : He.DefD := ⟨("_law_word", none), "_law_word", "_law_word", defArgs st__law_word, defBody st__law_word, defScope st__law_word, [], []⟩
def dd_law : He.DefD := ⟨("law", none), "law", "law", defArgs st_law, defBody st_law, defScope st_law, [], []⟩
def fnL0 : List He.DefD := [dd_common, dd_plain, dd_is_worth, dd_check_worths, dd_check_word, dd_price_of, dd_winners_of, dd_income_in, dd_income_of, dd_sets_of, dd_most_weight, dd_weights_in, dd_weights_of, dd_back_to, dd_given_back, dd_left_over, dd_gain_with, dd__law_draws, dd__law_mix, dd__law_common, dd__law_low, dd__law_add, dd__law_times, dd__law_sum, dd__law_sets, dd__law_weights, dd__law_back, dd__law_price, dd__law_gain, dd__law_word]
def fnL1 : List He.DefD := [dd_law]
abbrev fnL : List He.DefD := fnL0 ++ fnL1
def faL0 : List He.Fa := [.glo "common", .glo "plain", .glo "is_worth", .glo "check_worths", .glo "check_word", .glo "price_of", .glo "winners_of", .glo "income_in", .glo "income_of", .glo "sets_of", .glo "most_weight", .glo "weights_in", .glo "weights_of", .glo "back_to", .glo "given_back", .glo "left_over", .glo "gain_with", .glo "_law_draws", .glo "_law_mix", .glo "_law_common", .glo "_law_low", .glo "_law_add", .glo "_law_times", .glo "_law_sum", .glo "_law_sets", .glo "_law_weights", .glo "_law_back", .glo "_law_price", .glo "_law_gain", .glo "_law_word"]
def faL1 : List He.Fa := [.glo "law", .glo "AuctionError", .glo "BadBook", .glo "BadBidder", .glo "BadWord", .glo "BadWorths", .glo "BadPieces", .glo "ZERO", .free "abs", .free "len", .free "enumerate", .free "sorted", .free "min", .free "range", .free "sum", .free "zip", .free "int", .free "max", .free "list", .free "super", .int "MOST_BIDDERS" 10, .int "MOST_PIECES" 8, .int "MOST_WORTH" 1000000]
abbrev faL : List He.Fa := faL0 ++ faL1
def names0 : List Str := ["AuctionError", "BadBook", "BadBidder", "BadWord", "BadWorths", "BadPieces", "common", "plain", "MOST_BIDDERS", "MOST_PIECES", "MOST_WORTH", "ZERO", "is_worth", "check_worths", "check_word", "price_of", "winners_of", "income_in", "income_of", "sets_of", "most_weight", "weights_in", "weights_of", "back_to", "given_back", "left_over", "gain_with", "_law_draws", "_law_mix", "_law_common"]
def names1 : List Str := ["_law_low", "_law_add", "_law_times", "_law_sum", "_law_sets", "_law_weights", "_law_back", "_law_price", "_law_gain", "_law_word"]
abbrev names : List Str := names0 ++ names1
def wt : WtT where
  fa := faL
  fn := fnL
  D := "AuctionError"
  qual := "AuctionError.__init__"
  st := initSt
  file := PP.main.file
  cs := ["BadBidder", "BadBook", "BadPieces", "BadWord", "BadWorths"]
  ex := [("BadBidder", "BadBook", false), ("BadBidder", "BadWorths", false), ("BadBidder", "BadPieces", false), ("BadBidder", "BadWord", false), ("BadBidder", "BadBidder", true), ("BadBook", "BadBook", true), ("BadBook", "BadWorths", false), ("BadBook", "BadPieces", false), ("BadBook", "BadWord", false), ("BadBook", "BadBidder", false), ("BadPieces", "BadBook", false), ("BadPieces", "BadWorths", false), ("BadPieces", "BadPieces", true), ("BadPieces", "BadWord", false), ("BadPieces", "BadBidder", false), ("BadWord", "BadBook", false), ("BadWord", "BadWorths", false), ("BadWord", "BadPieces", false), ("BadWord", "BadWord", true), ("BadWord", "BadBidder", false), ("BadWorths", "BadBook", false), ("BadWorths", "BadWorths", true), ("BadWorths", "BadPieces", false), ("BadWorths", "BadWord", false), ("BadWorths", "BadBidder", false)]
  tp := [("ZERO", [.int 0, .int 1])]
structure M (K : PySem.W.Frag) (mg : Str → Option Value) : Prop where
  h : ∃ hp : Heap, K.In hp ∧ hp.Ns mainGlobals mg
  c : SaysT wt K
section
variable {K : PySem.W.Frag} {mg : Str → Option Value}
theorem M.gl_common (m : M K mg) : mg "common" = some (.ref (He.ga K "common")) := by
  obtain ⟨_, X, G⟩ := m.h
  exact He.glo_ok X G (m.c.p.d.fact 0 (f := .glo "common") rfl)
theorem M.gl_plain (m : M K mg) : mg "plain" = some (.ref (He.ga K "plain")) := by
  obtain ⟨_, X, G⟩ := m.h
  exact He.glo_ok X G (m.c.p.d.fact 1 (f := .glo "plain") rfl)
theorem M.gl_is_worth (m : M K mg) : mg "is_worth" = some (.ref (He.ga K "is_worth")) := by
  obtain ⟨_, X, G⟩ := m.h
  exact He.glo_ok X G (m.c.p.d.fact 2 (f := .glo "is_worth") rfl)
theorem M.gl_check_worths (m : M K mg) : mg "check_worths" = some (.ref (He.ga K "check_worths")) := by
  obtain ⟨_, X, G⟩ := m.h
  exact He.glo_ok X G (m.c.p.d.fact 3 (f := .glo "check_worths") rfl)
theorem M.gl_check_word (m : M K mg) : mg "check_word" = some (.ref (He.ga K "check_word")) := by
  obtain ⟨_, X, G⟩ := m.h
  exact He.glo_ok X G (m.c.p.d.fact 4 (f := .glo "check_word") rfl)
theorem M.gl_price_of (m : M K mg) : mg "price_of" = some (.ref (He.ga K "price_of")) := by
  obtain ⟨_, X, G⟩ := m.h
  exact He.glo_ok X G (m.c.p.d.fact 5 (f := .glo "price_of") rfl)
theorem M.gl_winners_of (m : M K mg) : mg "winners_of" = some (.ref (He.ga K "winners_of")) := by
  obtain ⟨_, X, G⟩ := m.h
  exact He.glo_ok X G (m.c.p.d.fact 6 (f := .glo "winners_of") rfl)
theorem M.gl_income_in (m : M K mg) : mg "income_in" = some (.ref (He.ga K "income_in")) := by
  obtain ⟨_, X, G⟩ := m.h
  exact He.glo_ok X G (m.c.p.d.fact 7 (f := .glo "income_in") rfl)
theorem M.gl_income_of (m : M K mg) : mg "income_of" = some (.ref (He.ga K "income_of")) := by
  obtain ⟨_, X, G⟩ := m.h
  exact He.glo_ok X G (m.c.p.d.fact 8 (f := .glo "income_of") rfl)
theorem M.gl_sets_of (m : M K mg) : mg "sets_of" = some (.ref (He.ga K "sets_of")) := by
  obtain ⟨_, X, G⟩ := m.h
  exact He.glo_ok X G (m.c.p.d.fact 9 (f := .glo "sets_of") rfl)
theorem M.gl_most_weight (m : M K mg) : mg "most_weight" = some (.ref (He.ga K "most_weight")) := by
  obtain ⟨_, X, G⟩ := m.h
  exact He.glo_ok X G (m.c.p.d.fact 10 (f := .glo "most_weight") rfl)
theorem M.gl_weights_in (m : M K mg) : mg "weights_in" = some (.ref (He.ga K "weights_in")) := by
  obtain ⟨_, X, G⟩ := m.h
  exact He.glo_ok X G (m.c.p.d.fact 11 (f := .glo "weights_in") rfl)
theorem M.gl_weights_of (m : M K mg) : mg "weights_of" = some (.ref (He.ga K "weights_of")) := by
  obtain ⟨_, X, G⟩ := m.h
  exact He.glo_ok X G (m.c.p.d.fact 12 (f := .glo "weights_of") rfl)
theorem M.gl_back_to (m : M K mg) : mg "back_to" = some (.ref (He.ga K "back_to")) := by
  obtain ⟨_, X, G⟩ := m.h
  exact He.glo_ok X G (m.c.p.d.fact 13 (f := .glo "back_to") rfl)
theorem M.gl_given_back (m : M K mg) : mg "given_back" = some (.ref (He.ga K "given_back")) := by
  obtain ⟨_, X, G⟩ := m.h
  exact He.glo_ok X G (m.c.p.d.fact 14 (f := .glo "given_back") rfl)
theorem M.gl_left_over (m : M K mg) : mg "left_over" = some (.ref (He.ga K "left_over")) := by
  obtain ⟨_, X, G⟩ := m.h
  exact He.glo_ok X G (m.c.p.d.fact 15 (f := .glo "left_over") rfl)
theorem M.gl_gain_with (m : M K mg) : mg "gain_with" = some (.ref (He.ga K "gain_with")) := by
  obtain ⟨_, X, G⟩ := m.h
  exact He.glo_ok X G (m.c.p.d.fact 16 (f := .glo "gain_with") rfl)
theorem M.gl__law_draws (m : M K mg) : mg "_law_draws" = some (.ref (He.ga K "_law_draws")) := by
  obtain ⟨_, X, G⟩ := m.h
  exact He.glo_ok X G (m.c.p.d.fact 17 (f := .glo "_law_draws") rfl)
theorem M.gl__law_mix (m : M K mg) : mg "_law_mix" = some (.ref (He.ga K "_law_mix")) := by
  obtain ⟨_, X, G⟩ := m.h
  exact He.glo_ok X G (m.c.p.d.fact 18 (f := .glo "_law_mix") rfl)
theorem M.gl__law_common (m : M K mg) : mg "_law_common" = some (.ref (He.ga K "_law_common")) := by
  obtain ⟨_, X, G⟩ := m.h
  exact He.glo_ok X G (m.c.p.d.fact 19 (f := .glo "_law_common") rfl)
theorem M.gl__law_low (m : M K mg) : mg "_law_low" = some (.ref (He.ga K "_law_low")) := by
  obtain ⟨_, X, G⟩ := m.h
  exact He.glo_ok X G (m.c.p.d.fact 20 (f := .glo "_law_low") rfl)
theorem M.gl__law_add (m : M K mg) : mg "_law_add" = some (.ref (He.ga K "_law_add")) := by
  obtain ⟨_, X, G⟩ := m.h
  exact He.glo_ok X G (m.c.p.d.fact 21 (f := .glo "_law_add") rfl)
theorem M.gl__law_times (m : M K mg) : mg "_law_times" = some (.ref (He.ga K "_law_times")) := by
  obtain ⟨_, X, G⟩ := m.h
  exact He.glo_ok X G (m.c.p.d.fact 22 (f := .glo "_law_times") rfl)
theorem M.gl__law_sum (m : M K mg) : mg "_law_sum" = some (.ref (He.ga K "_law_sum")) := by
  obtain ⟨_, X, G⟩ := m.h
  exact He.glo_ok X G (m.c.p.d.fact 23 (f := .glo "_law_sum") rfl)
theorem M.gl__law_sets (m : M K mg) : mg "_law_sets" = some (.ref (He.ga K "_law_sets")) := by
  obtain ⟨_, X, G⟩ := m.h
  exact He.glo_ok X G (m.c.p.d.fact 24 (f := .glo "_law_sets") rfl)
theorem M.gl__law_weights (m : M K mg) : mg "_law_weights" = some (.ref (He.ga K "_law_weights")) := by
  obtain ⟨_, X, G⟩ := m.h
  exact He.glo_ok X G (m.c.p.d.fact 25 (f := .glo "_law_weights") rfl)
theorem M.gl__law_back (m : M K mg) : mg "_law_back" = some (.ref (He.ga K "_law_back")) := by
  obtain ⟨_, X, G⟩ := m.h
  exact He.glo_ok X G (m.c.p.d.fact 26 (f := .glo "_law_back") rfl)
theorem M.gl__law_price (m : M K mg) : mg "_law_price" = some (.ref (He.ga K "_law_price")) := by
  obtain ⟨_, X, G⟩ := m.h
  exact He.glo_ok X G (m.c.p.d.fact 27 (f := .glo "_law_price") rfl)
theorem M.gl__law_gain (m : M K mg) : mg "_law_gain" = some (.ref (He.ga K "_law_gain")) := by
  obtain ⟨_, X, G⟩ := m.h
  exact He.glo_ok X G (m.c.p.d.fact 28 (f := .glo "_law_gain") rfl)
theorem M.gl__law_word (m : M K mg) : mg "_law_word" = some (.ref (He.ga K "_law_word")) := by
  obtain ⟨_, X, G⟩ := m.h
  exact He.glo_ok X G (m.c.p.d.fact 29 (f := .glo "_law_word") rfl)
theorem M.gl_law (m : M K mg) : mg "law" = some (.ref (He.ga K "law")) := by
  obtain ⟨_, X, G⟩ := m.h
  exact He.glo_ok X G (m.c.p.d.fact 30 (f := .glo "law") rfl)
theorem M.gl_AuctionError (m : M K mg) : mg "AuctionError" = some (.ref (He.ga K "AuctionError")) := by
  obtain ⟨_, X, G⟩ := m.h
  exact He.glo_ok X G (m.c.p.d.fact 31 (f := .glo "AuctionError") rfl)
theorem M.gl_BadBook (m : M K mg) : mg "BadBook" = some (.ref (He.ga K "BadBook")) := by
  obtain ⟨_, X, G⟩ := m.h
  exact He.glo_ok X G (m.c.p.d.fact 32 (f := .glo "BadBook") rfl)
theorem M.gl_BadBidder (m : M K mg) : mg "BadBidder" = some (.ref (He.ga K "BadBidder")) := by
  obtain ⟨_, X, G⟩ := m.h
  exact He.glo_ok X G (m.c.p.d.fact 33 (f := .glo "BadBidder") rfl)
theorem M.gl_BadWord (m : M K mg) : mg "BadWord" = some (.ref (He.ga K "BadWord")) := by
  obtain ⟨_, X, G⟩ := m.h
  exact He.glo_ok X G (m.c.p.d.fact 34 (f := .glo "BadWord") rfl)
theorem M.gl_BadWorths (m : M K mg) : mg "BadWorths" = some (.ref (He.ga K "BadWorths")) := by
  obtain ⟨_, X, G⟩ := m.h
  exact He.glo_ok X G (m.c.p.d.fact 35 (f := .glo "BadWorths") rfl)
theorem M.gl_BadPieces (m : M K mg) : mg "BadPieces" = some (.ref (He.ga K "BadPieces")) := by
  obtain ⟨_, X, G⟩ := m.h
  exact He.glo_ok X G (m.c.p.d.fact 36 (f := .glo "BadPieces") rfl)
theorem M.gl_ZERO (m : M K mg) : mg "ZERO" = some (.ref (He.ga K "ZERO")) := by
  obtain ⟨_, X, G⟩ := m.h
  exact He.glo_ok X G (m.c.p.d.fact 37 (f := .glo "ZERO") rfl)
theorem M.fr_abs (m : M K mg) : mg "abs" = none := by
  obtain ⟨_, X, G⟩ := m.h
  exact He.free_ok X G (m.c.p.d.fact 38 (f := .free "abs") rfl)
theorem M.fr_len (m : M K mg) : mg "len" = none := by
  obtain ⟨_, X, G⟩ := m.h
  exact He.free_ok X G (m.c.p.d.fact 39 (f := .free "len") rfl)
theorem M.fr_enumerate (m : M K mg) : mg "enumerate" = none := by
  obtain ⟨_, X, G⟩ := m.h
  exact He.free_ok X G (m.c.p.d.fact 40 (f := .free "enumerate") rfl)
theorem M.fr_sorted (m : M K mg) : mg "sorted" = none := by
  obtain ⟨_, X, G⟩ := m.h
  exact He.free_ok X G (m.c.p.d.fact 41 (f := .free "sorted") rfl)
theorem M.fr_min (m : M K mg) : mg "min" = none := by
  obtain ⟨_, X, G⟩ := m.h
  exact He.free_ok X G (m.c.p.d.fact 42 (f := .free "min") rfl)
theorem M.fr_range (m : M K mg) : mg "range" = none := by
  obtain ⟨_, X, G⟩ := m.h
  exact He.free_ok X G (m.c.p.d.fact 43 (f := .free "range") rfl)
theorem M.fr_sum (m : M K mg) : mg "sum" = none := by
  obtain ⟨_, X, G⟩ := m.h
  exact He.free_ok X G (m.c.p.d.fact 44 (f := .free "sum") rfl)
theorem M.fr_zip (m : M K mg) : mg "zip" = none := by
  obtain ⟨_, X, G⟩ := m.h
  exact He.free_ok X G (m.c.p.d.fact 45 (f := .free "zip") rfl)
theorem M.fr_int (m : M K mg) : mg "int" = none := by
  obtain ⟨_, X, G⟩ := m.h
  exact He.free_ok X G (m.c.p.d.fact 46 (f := .free "int") rfl)
theorem M.fr_max (m : M K mg) : mg "max" = none := by
  obtain ⟨_, X, G⟩ := m.h
  exact He.free_ok X G (m.c.p.d.fact 47 (f := .free "max") rfl)
theorem M.fr_list (m : M K mg) : mg "list" = none := by
  obtain ⟨_, X, G⟩ := m.h
  exact He.free_ok X G (m.c.p.d.fact 48 (f := .free "list") rfl)
theorem M.fr_super (m : M K mg) : mg "super" = none := by
  obtain ⟨_, X, G⟩ := m.h
  exact He.free_ok X G (m.c.p.d.fact 49 (f := .free "super") rfl)
theorem M.in_MOST_BIDDERS (m : M K mg) : ∃ t, mg "MOST_BIDDERS" = some (.int 10 t) := by
  obtain ⟨_, X, G⟩ := m.h
  exact He.int_ok X G (m.c.p.d.fact 50 (f := .int "MOST_BIDDERS" 10) rfl)
theorem M.in_MOST_PIECES (m : M K mg) : ∃ t, mg "MOST_PIECES" = some (.int 8 t) := by
  obtain ⟨_, X, G⟩ := m.h
  exact He.int_ok X G (m.c.p.d.fact 51 (f := .int "MOST_PIECES" 8) rfl)
theorem M.in_MOST_WORTH (m : M K mg) : ∃ t, mg "MOST_WORTH" = some (.int 1000000 t) := by
  obtain ⟨_, X, G⟩ := m.h
  exact He.int_ok X G (m.c.p.d.fact 52 (f := .int "MOST_WORTH" 1000000) rfl)
theorem M.tu_ZERO (m : M K mg) : GTup K (He.ga K "ZERO") [.int 0, .int 1] := m.c.tps ("ZERO", [.int 0, .int 1]) (List.mem_of_getElem? (i := 0) rfl)
theorem M.fn_common (m : M K mg) : ∃ fd, FnP K "common" st_common (He.ga K "common") fd := m.c.p.d.def_ 0 (d := dd_common) rfl
theorem M.fn_plain (m : M K mg) : ∃ fd, FnP K "plain" st_plain (He.ga K "plain") fd := m.c.p.d.def_ 1 (d := dd_plain) rfl
theorem M.fn_is_worth (m : M K mg) : ∃ fd, FnP K "is_worth" st_is_worth (He.ga K "is_worth") fd := m.c.p.d.def_ 2 (d := dd_is_worth) rfl
theorem M.fn_check_worths (m : M K mg) : ∃ fd, FnP K "check_worths" st_check_worths (He.ga K "check_worths") fd := m.c.p.d.def_ 3 (d := dd_check_worths) rfl
theorem M.fn_check_word (m : M K mg) : ∃ fd, FnP K "check_word" st_check_word (He.ga K "check_word") fd := m.c.p.d.def_ 4 (d := dd_check_word) rfl
theorem M.fn_price_of (m : M K mg) : ∃ fd, FnP K "price_of" st_price_of (He.ga K "price_of") fd := m.c.p.d.def_ 5 (d := dd_price_of) rfl
theorem M.fn_winners_of (m : M K mg) : ∃ fd, FnP K "winners_of" st_winners_of (He.ga K "winners_of") fd := m.c.p.d.def_ 6 (d := dd_winners_of) rfl
theorem M.fn_income_in (m : M K mg) : ∃ fd, FnP K "income_in" st_income_in (He.ga K "income_in") fd := m.c.p.d.def_ 7 (d := dd_income_in) rfl
theorem M.fn_income_of (m : M K mg) : ∃ fd, FnP K "income_of" st_income_of (He.ga K "income_of") fd := m.c.p.d.def_ 8 (d := dd_income_of) rfl
theorem M.fn_sets_of (m : M K mg) : ∃ fd, FnP K "sets_of" st_sets_of (He.ga K "sets_of") fd := m.c.p.d.def_ 9 (d := dd_sets_of) rfl
theorem M.fn_most_weight (m : M K mg) : ∃ fd, FnP K "most_weight" st_most_weight (He.ga K "most_weight") fd := m.c.p.d.def_ 10 (d := dd_most_weight) rfl
theorem M.fn_weights_in (m : M K mg) : ∃ fd, FnP K "weights_in" st_weights_in (He.ga K "weights_in") fd := m.c.p.d.def_ 11 (d := dd_weights_in) rfl
theorem M.fn_weights_of (m : M K mg) : ∃ fd, FnP K "weights_of" st_weights_of (He.ga K "weights_of") fd := m.c.p.d.def_ 12 (d := dd_weights_of) rfl
theorem M.fn_back_to (m : M K mg) : ∃ fd, FnP K "back_to" st_back_to (He.ga K "back_to") fd := m.c.p.d.def_ 13 (d := dd_back_to) rfl
theorem M.fn_given_back (m : M K mg) : ∃ fd, FnP K "given_back" st_given_back (He.ga K "given_back") fd := m.c.p.d.def_ 14 (d := dd_given_back) rfl
theorem M.fn_left_over (m : M K mg) : ∃ fd, FnP K "left_over" st_left_over (He.ga K "left_over") fd := m.c.p.d.def_ 15 (d := dd_left_over) rfl
theorem M.fn_gain_with (m : M K mg) : ∃ fd, FnP K "gain_with" st_gain_with (He.ga K "gain_with") fd := m.c.p.d.def_ 16 (d := dd_gain_with) rfl
theorem M.fn__law_draws (m : M K mg) : ∃ fd, FnP K "_law_draws" st__law_draws (He.ga K "_law_draws") fd := m.c.p.d.def_ 17 (d := dd__law_draws) rfl
theorem M.fn__law_mix (m : M K mg) : ∃ fd, FnP K "_law_mix" st__law_mix (He.ga K "_law_mix") fd := m.c.p.d.def_ 18 (d := dd__law_mix) rfl
theorem M.fn__law_common (m : M K mg) : ∃ fd, FnP K "_law_common" st__law_common (He.ga K "_law_common") fd := m.c.p.d.def_ 19 (d := dd__law_common) rfl
theorem M.fn__law_low (m : M K mg) : ∃ fd, FnP K "_law_low" st__law_low (He.ga K "_law_low") fd := m.c.p.d.def_ 20 (d := dd__law_low) rfl
theorem M.fn__law_add (m : M K mg) : ∃ fd, FnP K "_law_add" st__law_add (He.ga K "_law_add") fd := m.c.p.d.def_ 21 (d := dd__law_add) rfl
theorem M.fn__law_times (m : M K mg) : ∃ fd, FnP K "_law_times" st__law_times (He.ga K "_law_times") fd := m.c.p.d.def_ 22 (d := dd__law_times) rfl
theorem M.fn__law_sum (m : M K mg) : ∃ fd, FnP K "_law_sum" st__law_sum (He.ga K "_law_sum") fd := m.c.p.d.def_ 23 (d := dd__law_sum) rfl
theorem M.fn__law_sets (m : M K mg) : ∃ fd, FnP K "_law_sets" st__law_sets (He.ga K "_law_sets") fd := m.c.p.d.def_ 24 (d := dd__law_sets) rfl
theorem M.fn__law_weights (m : M K mg) : ∃ fd, FnP K "_law_weights" st__law_weights (He.ga K "_law_weights") fd := m.c.p.d.def_ 25 (d := dd__law_weights) rfl
theorem M.fn__law_back (m : M K mg) : ∃ fd, FnP K "_law_back" st__law_back (He.ga K "_law_back") fd := m.c.p.d.def_ 26 (d := dd__law_back) rfl
theorem M.fn__law_price (m : M K mg) : ∃ fd, FnP K "_law_price" st__law_price (He.ga K "_law_price") fd := m.c.p.d.def_ 27 (d := dd__law_price) rfl
theorem M.fn__law_gain (m : M K mg) : ∃ fd, FnP K "_law_gain" st__law_gain (He.ga K "_law_gain") fd := m.c.p.d.def_ 28 (d := dd__law_gain) rfl
theorem M.fn__law_word (m : M K mg) : ∃ fd, FnP K "_law_word" st__law_word (He.ga K "_law_word") fd := m.c.p.d.def_ 29 (d := dd__law_word) rfl
theorem M.fn_law (m : M K mg) : ∃ fd, FnP K "law" st_law (He.ga K "law") fd := m.c.p.d.def_ 30 (d := dd_law) rfl
theorem M.ex_BadBidder (m : M K mg) : ExcOk K (He.ga K "AuctionError") (iA K "AuctionError") (He.ga K "BadBidder") := (exOkB_ok (m.c.p.b.2.1 "BadBidder" (by decide))).1
theorem M.ex_BadBook (m : M K mg) : ExcOk K (He.ga K "AuctionError") (iA K "AuctionError") (He.ga K "BadBook") := (exOkB_ok (m.c.p.b.2.1 "BadBook" (by decide))).1
theorem M.ex_BadPieces (m : M K mg) : ExcOk K (He.ga K "AuctionError") (iA K "AuctionError") (He.ga K "BadPieces") := (exOkB_ok (m.c.p.b.2.1 "BadPieces" (by decide))).1
theorem M.ex_BadWord (m : M K mg) : ExcOk K (He.ga K "AuctionError") (iA K "AuctionError") (He.ga K "BadWord") := (exOkB_ok (m.c.p.b.2.1 "BadWord" (by decide))).1
theorem M.ex_BadWorths (m : M K mg) : ExcOk K (He.ga K "AuctionError") (iA K "AuctionError") (He.ga K "BadWorths") := (exOkB_ok (m.c.p.b.2.1 "BadWorths" (by decide))).1
theorem M.xf_BadBidder (m : M K mg) : XfC K (He.ga K "BadBidder") := (exOkB_ok (m.c.p.b.2.1 "BadBidder" (by decide))).2
theorem M.xf_BadBook (m : M K mg) : XfC K (He.ga K "BadBook") := (exOkB_ok (m.c.p.b.2.1 "BadBook" (by decide))).2
theorem M.xf_BadPieces (m : M K mg) : XfC K (He.ga K "BadPieces") := (exOkB_ok (m.c.p.b.2.1 "BadPieces" (by decide))).2
theorem M.xf_BadWord (m : M K mg) : XfC K (He.ga K "BadWord") := (exOkB_ok (m.c.p.b.2.1 "BadWord" (by decide))).2
theorem M.xf_BadWorths (m : M K mg) : XfC K (He.ga K "BadWorths") := (exOkB_ok (m.c.p.b.2.1 "BadWorths" (by decide))).2
theorem isc : InitSc initSt := ⟨rfl, rfl, rfl, rfl, rfl, rfl, rfl, by decide +kernel, fun x h => by
    have key : ∀ y ∈ (defScope initSt).names, y.2 = .free → y.1 = ("__class__" : Str) := by decide +kernel
    exact key _ (PySem.mem_of_lookup h) rfl, rfl, ⟨_, _, _, _, _, _, _, _, _, _, rfl, fun env => ⟨_, rfl⟩, rfl⟩⟩
theorem M.init (m : M K mg) : ∃ fd, InitF PP K mg "AuctionError.__init__" initSt (iA K "AuctionError") fd (He.ga K "AuctionError") (cA K "AuctionError") ∧ Binds K fd ["self", "at"] [] := by
  obtain ⟨fd, I⟩ := inB_ok (P := PP) (mg := mg) (D := "AuctionError") (qual := "AuctionError.__init__") (st := initSt) m.c.p.b.1 m.c.p.i m.fr_super (by decide +kernel)
  refine ⟨fd, I, ?_⟩
  obtain ⟨oc, od, kV, doc, pm, an, cda, ct, osl, ccl, cdd, vs, ccs, file, tf, rfl, _⟩ := I.ex
  exact .all fun us hl => match us, hl with | [_, _], _ => rfl
end
def m_common : List PyData → Res PyData := mDef 2 2 (
 sSeq (sParM [2, 3] (mVal (e1 absD (eCons (eVarB 0) eNil)) (mVal (e1 absD (eCons (eVarB 1) eNil)) (mNil))))
      (sSeq (sWhile 100000 (eTb (e2 gtD (eVarB 3) (eC (.int 0))))
      (sParM [2, 3] (mVal (eVar 3) (mVal (e2 modD (eVarB 2) (eVarB 3)) (mNil)))))
      (sRet (eVar 2))))
theorem sc_common : FnScope ["one", "two", "a", "b"] ["one", "two"] (defScope st_common) := ⟨rfl, rfl, rfl, by decide +kernel, rfl, by decide +kernel, by decide +kernel⟩
theorem ok_common {w : World} {K : PySem.W.Frag} {mg : Str → Option Value} {base : Heap} (m : M K mg) {fd : FuncData} (F : FnP K "common" st_common (He.ga K "common") fd) : FnOk PP w K mg base (L2.CX PP w) 1 (He.ga K "common") fd ["one", "two"] (spOf K mg 2 m_common) := by
  exact fnD_ok F sc_common rfl rfl (by decide) fun cdv A outer s H E hr =>
   ps_seq (pq_parM (i := 2) (j := 3) rfl sc_common.nd rfl rfl (by decide) rfl rfl (pf_mval (pf_abs (m.fr_abs) (pf_varB 0)) (pf_mval (pf_abs (m.fr_abs) (pf_varB 1)) (pf_mnil))))
      (ps_seq (pq_while 100000 (passes_of rfl) (pf_cmpT cm_gt (pf_varB 3) (pf_b (pf_int)))
      (ps_1 (pq_parM (i := 2) (j := 3) rfl sc_common.nd rfl rfl (by decide) rfl rfl (pf_mval (pf_var 3) (pf_mval (pf_mod (pf_varB 2) (pf_varB 3)) (pf_mnil))))))
      (ps_1 (pq_ret (pf_var 2))))
def m_plain : List PyData → Res PyData := mDef 2 1 (
 sSeq (sSet 2 (eCall m_common (eCons (eVar 0) (eCons (eVar 1) (eNil)))))
      (sRet (e1 tupD (eCons (e2 divD (eVarB 0) (eVarB 2)) (eCons (e2 divD (eVarB 1) (eVarB 2)) (eNil))))))
theorem sc_plain : FnScope ["n", "d", "k"] ["n", "d"] (defScope st_plain) := ⟨rfl, rfl, rfl, by decide +kernel, rfl, by decide +kernel, by decide +kernel⟩
theorem ok_plain {w : World} {K : PySem.W.Frag} {mg : Str → Option Value} {base : Heap} (m : M K mg) {fd : FuncData} (F : FnP K "plain" st_plain (He.ga K "plain") fd) : FnOk PP w K mg base (L2.CX PP w) 2 (He.ga K "plain") fd ["n", "d"] (spOf K mg 2 m_plain) := by
  obtain ⟨fd_common, F_common⟩ := m.fn_common
  have k_common := ok_common (w := w) (base := base) m F_common
  have b_common : Binds K fd_common ["one", "two"] [] := FunD.bindsN (ps := ["one", "two"]) F_common fun _ _ _ _ _ _ us hl => match us, hl with | [_, _], _ => rfl
  exact fnD_ok F sc_plain rfl rfl (by decide) fun cdv A outer s H E hr =>
   ps_seq (pq_set (i := 2) sc_plain.nd rfl (by first | exact Or.inl rfl | exact Or.inr rfl) (pf_call k_common (hr.mono (by decide)) rfl m.gl_common F_common.kp b_common (takes_of rfl rfl rfl rfl) (pf_cons (pf_var 0) (pf_cons (pf_var 1) (pf_nil))) (len_cons (len_cons (len_nil)))))
      (ps_1 (pq_ret (pf_tup (pf_cons (pf_div (pf_varB 0) (pf_varB 2)) (pf_cons (pf_div (pf_varB 1) (pf_varB 2)) (pf_nil))) (by decide) (len_cons (len_cons (len_nil))))))
def m_is_worth : List PyData → Res PyData := mDef 1 0 (
 sRet (eBool (eChain leD leD (eC (.int 0)) (eVarB 0) (eC (.int 1000000)))))
theorem sc_is_worth : FnScope ["told"] ["told"] (defScope st_is_worth) := ⟨rfl, rfl, rfl, by decide +kernel, rfl, by decide +kernel, by decide +kernel⟩
theorem ok_is_worth {w : World} {K : PySem.W.Frag} {mg : Str → Option Value} {base : Heap} (m : M K mg) {fd : FuncData} (F : FnP K "is_worth" st_is_worth (He.ga K "is_worth") fd) : FnOk PP w K mg base (L2.CX PP w) 1 (He.ga K "is_worth") fd ["told"] (spOf K mg 1 m_is_worth) := by
  exact fnD_ok F sc_is_worth rfl rfl (by decide) fun cdv A outer s H E hr =>
   ps_1 (pq_ret (pf_chainV cm_le cm_le (pf_b (pf_int)) (pf_varB 0) (pf_b (pf_gint rfl (m.in_MOST_WORTH)))))
def m_check_worths : List PyData → Res PyData := mDef 2 2 (
 sSeq (sIf (eNot (eChain leD leD (eC (.int 1)) (e1 lenD (eCons (eVarB 0) eNil)) (eC (.int 10))))
      (sRaise "BadBook" (e1 lenD (eCons (eVarB 0) eNil)))
      (sPass))
      (sSeq (sFor (e1 enumL (eCons (eVar 0) eNil)) (gUnp (gsCons (gSet 2) (gsCons (gSet 3) (gsNil))))
      (sIf (eNot (eTb (eCall m_is_worth (eCons (eVar 3) (eNil)))))
      (sRaise "BadWorths" (eVarB 2))
      (sPass)))
      (sIf (eNot (eChain leD leD (eC (.int 1)) (eVarB 1) (eC (.int 8))))
      (sRaise "BadPieces" (eVarB 1))
      (sPass))))
theorem sc_check_worths : FnScope ["worths", "pieces", "k", "worth"] ["worths", "pieces"] (defScope st_check_worths) := ⟨rfl, rfl, rfl, by decide +kernel, rfl, by decide +kernel, by decide +kernel⟩
theorem ok_check_worths {w : World} {K : PySem.W.Frag} {mg : Str → Option Value} {base : Heap} (m : M K mg) {fd : FuncData} (F : FnP K "check_worths" st_check_worths (He.ga K "check_worths") fd) : FnOk PP w K mg base (L2.CX PP w) 3 (He.ga K "check_worths") fd ["worths", "pieces"] (spOf K mg 2 m_check_worths) := by
  obtain ⟨fd_is_worth, F_is_worth⟩ := m.fn_is_worth
  have k_is_worth := ok_is_worth (w := w) (base := base) m F_is_worth
  have b_is_worth : Binds K fd_is_worth ["told"] [] := FunD.bindsN (ps := ["told"]) F_is_worth fun _ _ _ _ _ _ us hl => match us, hl with | [_], _ => rfl
  obtain ⟨fdI, Ii, bI⟩ := m.init
  exact fnD_ok F sc_check_worths rfl rfl (by decide) fun cdv A outer s H E hr =>
   ps_seq (pq_if (pf_not (pf_chainT cm_le cm_le (pf_b (pf_int)) (pf_b (pf_len (m.fr_len) (pf_varB 0))) (pf_b (pf_gint rfl (m.in_MOST_BIDDERS)))))
      (ps_1 (pq_raise rfl (takes_of rfl rfl rfl rfl) m.ex_BadBook (init_ok Ii isc) (hr.mono (by decide)) bI rfl m.gl_BadBook (pf_b (pf_len (m.fr_len) (pf_varB 0)))))
      (ps_nil))
      (ps_seq (pq_for (passes_of rfl) rfl (pf_enumF rfl rfl (m.fr_enumerate) (pf_var 0)) (pf_gtup rfl rfl (pf_gcons (pf_gname 2 sc_check_worths.nd rfl (by first | exact Or.inl rfl | exact Or.inr rfl)) (pf_gcons (pf_gname 3 sc_check_worths.nd rfl (by first | exact Or.inl rfl | exact Or.inr rfl)) (pf_gnil))) (gsCons_len (gsCons_len (gsNil_len))))
      (ps_1 (pq_if (pf_not (pf_tv (pf_b (pf_call k_is_worth (hr.mono (by decide)) rfl m.gl_is_worth F_is_worth.kp b_is_worth (takes_of rfl rfl rfl rfl) (pf_cons (pf_var 3) (pf_nil)) (len_cons (len_nil))))))
      (ps_1 (pq_raise rfl (takes_of rfl rfl rfl rfl) m.ex_BadWorths (init_ok Ii isc) (hr.mono (by decide)) bI rfl m.gl_BadWorths (pf_varB 2)))
      (ps_nil))))
      (ps_1 (pq_if (pf_not (pf_chainT cm_le cm_le (pf_b (pf_int)) (pf_varB 1) (pf_b (pf_gint rfl (m.in_MOST_PIECES)))))
      (ps_1 (pq_raise rfl (takes_of rfl rfl rfl rfl) m.ex_BadPieces (init_ok Ii isc) (hr.mono (by decide)) bI rfl m.gl_BadPieces (pf_varB 1)))
      (ps_nil))))
def m_check_word : List PyData → Res PyData := mDef 1 0 (
 sIf (eTb (e2 ninD (eVarB 0) (e1 tupD (eCons (eC (.str "even")) (eCons (eC (.str "most")) (eNil))))))
      (sRaise "BadWord" (eC (.int 0)))
      (sPass))
theorem sc_check_word : FnScope ["word"] ["word"] (defScope st_check_word) := ⟨rfl, rfl, rfl, by decide +kernel, rfl, by decide +kernel, by decide +kernel⟩
theorem ok_check_word {w : World} {K : PySem.W.Frag} {mg : Str → Option Value} {base : Heap} (m : M K mg) {fd : FuncData} (F : FnP K "check_word" st_check_word (He.ga K "check_word") fd) : FnOk PP w K mg base (L2.CX PP w) 3 (He.ga K "check_word") fd ["word"] (spOf K mg 1 m_check_word) := by
  obtain ⟨fdI, Ii, bI⟩ := m.init
  exact fnD_ok F sc_check_word rfl rfl (by decide) fun cdv A outer s H E hr =>
   ps_1 (pq_if (pf_cmpT (cm_nin rfl (u66 hr)) (pf_varB 0) (pf_b (pf_tup (pf_cons (pf_str) (pf_cons (pf_str) (pf_nil))) (by decide) (len_cons (len_cons (len_nil))))))
      (ps_1 (pq_raise rfl (takes_of rfl rfl rfl rfl) m.ex_BadWord (init_ok Ii isc) (hr.mono (by decide)) bI rfl m.gl_BadWord (pf_b (pf_int))))
      (ps_nil))
def m_price_of : List PyData → Res PyData := mDef 2 0 (
 sRet (eIf (eTb (e2 gtD (e1 lenD (eCons (eVarB 0) eNil)) (eVarB 1))) (e2 ixD (e1 listD (e1 revL (e1 listD (e1 sortedN (eCons (eVarB 0) eNil))))) (eVarB 1)) (eC (.int 0))))
theorem sc_price_of : FnScope ["worths", "pieces"] ["worths", "pieces"] (defScope st_price_of) := ⟨rfl, rfl, rfl, by decide +kernel, rfl, by decide +kernel, by decide +kernel⟩
theorem ok_price_of {w : World} {K : PySem.W.Frag} {mg : Str → Option Value} {base : Heap} (m : M K mg) {fd : FuncData} (F : FnP K "price_of" st_price_of (He.ga K "price_of") fd) : FnOk PP w K mg base (L2.CX PP w) 1 (He.ga K "price_of") fd ["worths", "pieces"] (spOf K mg 2 m_price_of) := by
  exact fnD_ok F sc_price_of rfl rfl (by decide) fun cdv A outer s H E hr =>
   ps_1 (pq_ret (pf_ifE (.inl rfl) (pf_cmpT cm_gt (pf_b (pf_len (m.fr_len) (pf_varB 0))) (pf_varB 1)) (pf_sub1 rfl (pf_b (pf_n (pf_revN (pf_b (pf_n (pf_sorted (m.fr_sorted) (pf_varB 0))))))) (pf_varB 1)) (pf_int)))
def m_winners_of : List PyData → Res PyData := mDef 2 4 (
 sSeq (sSet 2 (e1 listD (e1 sortTN (eCons (e1 listD (eComp [3, 4] (e1 enumL (eCons (eVarB 0) eNil)) (gUnp (gsCons (gSet 3) (gsCons (gSet 4) (gsNil)))) (eTrue) (e1 tupD (eCons (e1 negD (eVarB 4)) (eCons (eVar 3) (eNil)))))) eNil))))
      (sRet (e1 listD (eComp [5, 3] (e1 itL (eSl slT (eVarB 2) (eNone) (e1 asI (eVarB 1)))) (gUnp (gsCons (gSet 5) (gsCons (gSet 3) (gsNil)))) (eTrue) (eVar 3)))))
theorem sc_winners_of : FnScope ["worths", "pieces", "order", "k", "worth", "_"] ["worths", "pieces"] (defScope st_winners_of) := ⟨rfl, rfl, rfl, by decide +kernel, rfl, by decide +kernel, by decide +kernel⟩
theorem ok_winners_of {w : World} {K : PySem.W.Frag} {mg : Str → Option Value} {base : Heap} (m : M K mg) {fd : FuncData} (F : FnP K "winners_of" st_winners_of (He.ga K "winners_of") fd) : FnOk PP w K mg base (L2.CX PP w) 1 (He.ga K "winners_of") fd ["worths", "pieces"] (spOf K mg 2 m_winners_of) := by
  exact fnD_ok F sc_winners_of rfl rfl (by decide) fun cdv A outer s H E hr =>
   ps_seq (pq_set (i := 2) sc_winners_of.nd rfl (by first | exact Or.inl rfl | exact Or.inr rfl) (pf_n (pf_sortT (u66 hr) (m.fr_sorted) (pf_b (pf_n (pf_lc (own := [("k", 3), ("worth", 4)]) rfl sc_winners_of.nd (pf_enumB rfl rfl (m.fr_enumerate) (pf_varB 0)) (blkOk_by (by kernel_rfl)) (fun _ _ _ _ _ => pf_gtup rfl rfl (pf_gcons (pf_gname 3 sc_winners_of.nd rfl (by first | exact Or.inl rfl | exact Or.inr rfl)) (pf_gcons (pf_gname 4 sc_winners_of.nd rfl (by first | exact Or.inl rfl | exact Or.inr rfl)) (pf_gnil))) (gsCons_len (gsCons_len (gsNil_len)))) (fun _ _ _ _ _ => pf_tyes) (fun _ _ _ _ _ => pf_tup (pf_cons (pf_neg (pf_varB 4)) (pf_cons (pf_var 3) (pf_nil))) (by decide) (len_cons (len_cons (len_nil))))))))))
      (ps_1 (pq_ret (pf_n (pf_lc (own := [("_", 5), ("k", 3)]) rfl sc_winners_of.nd (pf_iB rfl (pf_b (pf_slF rfl (pf_varB 2) (pf_pnone) (pf_psome (pf_varB 1))))) (blkOk_by (by kernel_rfl)) (fun _ _ _ _ _ => pf_gtup rfl rfl (pf_gcons (pf_gname 5 sc_winners_of.nd rfl (by first | exact Or.inl rfl | exact Or.inr rfl)) (pf_gcons (pf_gname 3 sc_winners_of.nd rfl (by first | exact Or.inl rfl | exact Or.inr rfl)) (pf_gnil))) (gsCons_len (gsCons_len (gsNil_len)))) (fun _ _ _ _ _ => pf_tyes) (fun _ _ _ _ _ => pf_var 3)))))
def m_income_in : List PyData → Res PyData := mDef 2 0 (
 sRet (e2 mulD (eCall m_price_of (eCons (eVar 0) (eCons (eVar 1) (eNil)))) (e1 min2D (eCons (eVarB 1) (eCons (e1 lenD (eCons (eVarB 0) eNil)) eNil)))))
theorem sc_income_in : FnScope ["worths", "pieces"] ["worths", "pieces"] (defScope st_income_in) := ⟨rfl, rfl, rfl, by decide +kernel, rfl, by decide +kernel, by decide +kernel⟩
theorem ok_income_in {w : World} {K : PySem.W.Frag} {mg : Str → Option Value} {base : Heap} (m : M K mg) {fd : FuncData} (F : FnP K "income_in" st_income_in (He.ga K "income_in") fd) : FnOk PP w K mg base (L2.CX PP w) 2 (He.ga K "income_in") fd ["worths", "pieces"] (spOf K mg 2 m_income_in) := by
  obtain ⟨fd_price_of, F_price_of⟩ := m.fn_price_of
  have k_price_of := ok_price_of (w := w) (base := base) m F_price_of
  have b_price_of : Binds K fd_price_of ["worths", "pieces"] [] := FunD.bindsN (ps := ["worths", "pieces"]) F_price_of fun _ _ _ _ _ _ us hl => match us, hl with | [_, _], _ => rfl
  exact fnD_ok F sc_income_in rfl rfl (by decide) fun cdv A outer s H E hr =>
   ps_1 (pq_ret (pf_mul (pf_b (pf_call k_price_of (hr.mono (by decide)) rfl m.gl_price_of F_price_of.kp b_price_of (takes_of rfl rfl rfl rfl) (pf_cons (pf_var 0) (pf_cons (pf_var 1) (pf_nil))) (len_cons (len_cons (len_nil))))) (pf_b (pf_min2 rfl (m.fr_min) (pf_varB 1) (pf_b (pf_len (m.fr_len) (pf_varB 0)))))))
def m_income_of : List PyData → Res PyData := mDef 2 0 (
 sSeq (sExpr (eCall m_check_worths (eCons (eVar 0) (eCons (eVar 1) (eNil)))))
      (sRet (eCall m_income_in (eCons (eVar 0) (eCons (eVar 1) (eNil))))))
theorem sc_income_of : FnScope ["worths", "pieces"] ["worths", "pieces"] (defScope st_income_of) := ⟨rfl, rfl, rfl, by decide +kernel, rfl, by decide +kernel, by decide +kernel⟩
theorem ok_income_of {w : World} {K : PySem.W.Frag} {mg : Str → Option Value} {base : Heap} (m : M K mg) {fd : FuncData} (F : FnP K "income_of" st_income_of (He.ga K "income_of") fd) : FnOk PP w K mg base (L2.CX PP w) 4 (He.ga K "income_of") fd ["worths", "pieces"] (spOf K mg 2 m_income_of) := by
  obtain ⟨fd_check_worths, F_check_worths⟩ := m.fn_check_worths
  have k_check_worths := ok_check_worths (w := w) (base := base) m F_check_worths
  have b_check_worths : Binds K fd_check_worths ["worths", "pieces"] [] := FunD.bindsN (ps := ["worths", "pieces"]) F_check_worths fun _ _ _ _ _ _ us hl => match us, hl with | [_, _], _ => rfl
  obtain ⟨fd_income_in, F_income_in⟩ := m.fn_income_in
  have k_income_in := ok_income_in (w := w) (base := base) m F_income_in
  have b_income_in : Binds K fd_income_in ["worths", "pieces"] [] := FunD.bindsN (ps := ["worths", "pieces"]) F_income_in fun _ _ _ _ _ _ us hl => match us, hl with | [_, _], _ => rfl
  exact fnD_ok F sc_income_of rfl rfl (by decide) fun cdv A outer s H E hr =>
   ps_seq (pq_expr (pf_b (pf_call k_check_worths (hr.mono (by decide)) rfl m.gl_check_worths F_check_worths.kp b_check_worths (takes_of rfl rfl rfl rfl) (pf_cons (pf_var 0) (pf_cons (pf_var 1) (pf_nil))) (len_cons (len_cons (len_nil))))))
      (ps_1 (pq_ret (pf_call k_income_in (hr.mono (by decide)) rfl m.gl_income_in F_income_in.kp b_income_in (takes_of rfl rfl rfl rfl) (pf_cons (pf_var 0) (pf_cons (pf_var 1) (pf_nil))) (len_cons (len_cons (len_nil))))))
def m_sets_of : List PyData → Res PyData := mDef 2 2 (
 sSeq (sSet 2 (eC (.int 1)))
      (sSeq (sFor (e1 rg1 (eCons (eVarB 1) (eNil))) (gSet 3)
      (sSet 2 (e2 divD (e2 mulD (eVarB 2) (e2 subD (eVarB 0) (eVarB 3))) (e2 addD (eVarB 3) (eC (.int 1))))))
      (sRet (eVar 2))))
theorem sc_sets_of : FnScope ["things", "many", "found", "k"] ["things", "many"] (defScope st_sets_of) := ⟨rfl, rfl, rfl, by decide +kernel, rfl, by decide +kernel, by decide +kernel⟩
theorem ok_sets_of {w : World} {K : PySem.W.Frag} {mg : Str → Option Value} {base : Heap} (m : M K mg) {fd : FuncData} (F : FnP K "sets_of" st_sets_of (He.ga K "sets_of") fd) : FnOk PP w K mg base (L2.CX PP w) 1 (He.ga K "sets_of") fd ["things", "many"] (spOf K mg 2 m_sets_of) := by
  exact fnD_ok F sc_sets_of rfl rfl (by decide) fun cdv A outer s H E hr =>
   ps_seq (pq_set (i := 2) sc_sets_of.nd rfl (by first | exact Or.inl rfl | exact Or.inr rfl) (pf_int))
      (ps_seq (pq_for (passes_of rfl) rfl (pf_range1 rfl (m.fr_range) (pf_consB (pf_varB 1) (pf_nilB))) (pf_gname 3 sc_sets_of.nd rfl (by first | exact Or.inl rfl | exact Or.inr rfl))
      (ps_1 (pq_set (i := 2) sc_sets_of.nd rfl (by first | exact Or.inl rfl | exact Or.inr rfl) (pf_div (pf_b (pf_mul (pf_varB 2) (pf_b (pf_sub (pf_varB 0) (pf_varB 3))))) (pf_b (pf_add rfl (pf_varB 3) (pf_b (pf_int))))))))
      (ps_1 (pq_ret (pf_var 2))))
def m_most_weight : List PyData → Res PyData := mDef 3 3 (
 sSeq (sSet 3 (e1 sumD (eCons (e1 listD (eComp [5] (e1 rg2 (eCons (eVarB 1) (eCons (eVarB 0) (eNil)))) (gSet 5) (eTrue) (eCall m_sets_of (eCons (e2 subD (eVarB 0) (eC (.int 1))) (eCons (eVar 5) (eNil)))))) eNil)))
      (sSeq (sSet 4 (e2 mulD (e2 mulD (e2 subD (eVarB 0) (eVarB 1)) (eCall m_sets_of (eCons (e2 subD (eVarB 0) (eC (.int 1))) (eCons (e2 subD (eVarB 1) (eC (.int 1))) (eNil))))) (e1 sumD (eCons (e1 listD (eComp [5] (e1 rg2 (eCons (eVarB 2) (eCons (eVarB 0) (eNil)))) (gSet 5) (eTrue) (eCall m_sets_of (eCons (e2 subD (eVarB 0) (eC (.int 1))) (eCons (eVar 5) (eNil)))))) eNil))))
      (sRet (eCall m_plain (eCons (eIf (eTb (e2 eqD (e2 modD (e2 subD (e2 addD (eVarB 2) (eVarB 1)) (eC (.int 1))) (eC (.int 2))) (eC (.int 0)))) (eVar 4) (e1 negD (eVarB 4))) (eCons (e2 mulD (e2 mulD (eVarB 2) (eVarB 3)) (eCall m_sets_of (eCons (e2 subD (eVarB 0) (eC (.int 1))) (eCons (eVar 2) (eNil))))) (eNil)))))))
theorem sc_most_weight : FnScope ["n", "m", "i", "whole", "above", "j"] ["n", "m", "i"] (defScope st_most_weight) := ⟨rfl, rfl, rfl, by decide +kernel, rfl, by decide +kernel, by decide +kernel⟩
theorem ok_most_weight {w : World} {K : PySem.W.Frag} {mg : Str → Option Value} {base : Heap} (m : M K mg) {fd : FuncData} (F : FnP K "most_weight" st_most_weight (He.ga K "most_weight") fd) : FnOk PP w K mg base (L2.CX PP w) 3 (He.ga K "most_weight") fd ["n", "m", "i"] (spOf K mg 3 m_most_weight) := by
  obtain ⟨fd_sets_of, F_sets_of⟩ := m.fn_sets_of
  have k_sets_of := ok_sets_of (w := w) (base := base) m F_sets_of
  have b_sets_of : Binds K fd_sets_of ["things", "many"] [] := FunD.bindsN (ps := ["things", "many"]) F_sets_of fun _ _ _ _ _ _ us hl => match us, hl with | [_, _], _ => rfl
  obtain ⟨fd_plain, F_plain⟩ := m.fn_plain
  have k_plain := ok_plain (w := w) (base := base) m F_plain
  have b_plain : Binds K fd_plain ["n", "d"] [] := FunD.bindsN (ps := ["n", "d"]) F_plain fun _ _ _ _ _ _ us hl => match us, hl with | [_, _], _ => rfl
  exact fnD_ok F sc_most_weight rfl rfl (by decide) fun cdv A outer s H E hr =>
   ps_seq (pq_set (i := 3) sc_most_weight.nd rfl (by first | exact Or.inl rfl | exact Or.inr rfl) (pf_sum rfl (m.fr_sum) (pf_b (pf_n (pf_lc (own := [("j", 5)]) rfl sc_most_weight.nd (pf_range2 rfl (m.fr_range) (pf_consB (pf_varB 1) (pf_consB (pf_varB 0) (pf_nilB)))) (blkOk_by (by kernel_rfl)) (fun _ _ _ _ _ => pf_gname 5 sc_most_weight.nd rfl (by first | exact Or.inl rfl | exact Or.inr rfl)) (fun _ _ _ _ _ => pf_tyes) (fun _ _ _ _ _ => pf_call k_sets_of (hr.mono (by decide)) rfl m.gl_sets_of F_sets_of.kp b_sets_of Pf.takes0 (pf_cons (pf_sub (pf_varB 0) (pf_b (pf_int))) (pf_cons (pf_var 5) (pf_nil))) (len_cons (len_cons (len_nil)))))))))
      (ps_seq (pq_set (i := 4) sc_most_weight.nd rfl (by first | exact Or.inl rfl | exact Or.inr rfl) (pf_mul (pf_b (pf_mul (pf_b (pf_sub (pf_varB 0) (pf_varB 1))) (pf_b (pf_call k_sets_of (hr.mono (by decide)) rfl m.gl_sets_of F_sets_of.kp b_sets_of (takes_of rfl rfl rfl rfl) (pf_cons (pf_sub (pf_varB 0) (pf_b (pf_int))) (pf_cons (pf_sub (pf_varB 1) (pf_b (pf_int))) (pf_nil))) (len_cons (len_cons (len_nil))))))) (pf_b (pf_sum rfl (m.fr_sum) (pf_b (pf_n (pf_lc (own := [("j", 5)]) rfl sc_most_weight.nd (pf_range2 rfl (m.fr_range) (pf_consB (pf_varB 2) (pf_consB (pf_varB 0) (pf_nilB)))) (blkOk_by (by kernel_rfl)) (fun _ _ _ _ _ => pf_gname 5 sc_most_weight.nd rfl (by first | exact Or.inl rfl | exact Or.inr rfl)) (fun _ _ _ _ _ => pf_tyes) (fun _ _ _ _ _ => pf_call k_sets_of (hr.mono (by decide)) rfl m.gl_sets_of F_sets_of.kp b_sets_of Pf.takes0 (pf_cons (pf_sub (pf_varB 0) (pf_b (pf_int))) (pf_cons (pf_var 5) (pf_nil))) (len_cons (len_cons (len_nil)))))))))))
      (ps_1 (pq_ret (pf_call k_plain (hr.mono (by decide)) rfl m.gl_plain F_plain.kp b_plain (takes_of rfl rfl rfl rfl) (pf_cons (pf_ifE (.inl rfl) (pf_cmpT (cm_eq rfl (u64 hr)) (pf_b (pf_mod (pf_b (pf_sub (pf_b (pf_add rfl (pf_varB 2) (pf_varB 1))) (pf_b (pf_int)))) (pf_b (pf_int)))) (pf_b (pf_int))) (pf_var 4) (pf_neg (pf_varB 4))) (pf_cons (pf_mul (pf_b (pf_mul (pf_varB 2) (pf_varB 3))) (pf_b (pf_call k_sets_of (hr.mono (by decide)) rfl m.gl_sets_of F_sets_of.kp b_sets_of (takes_of rfl rfl rfl rfl) (pf_cons (pf_sub (pf_varB 0) (pf_b (pf_int))) (pf_cons (pf_var 2) (pf_nil))) (len_cons (len_cons (len_nil)))))) (pf_nil))) (len_cons (len_cons (len_nil)))))))
def m_weights_in : List PyData → Res PyData := mDef 3 1 (
 sSeq (sIf (eTb (e2 ltD (eVarB 0) (e2 addD (eVarB 1) (eC (.int 2)))))
      (sRet (e1 listD (eNil)))
      (sPass))
      (sSeq (sIf (eTb (e2 eqD (eVarB 2) (eC (.str "most"))))
      (sRet (e1 listD (eComp [3] (e1 rg2 (eCons (e2 addD (eVarB 1) (eC (.int 1))) (eCons (eVarB 0) (eNil)))) (gSet 3) (eTrue) (eCall m_most_weight (eCons (eVar 0) (eCons (eVar 1) (eCons (eVar 3) (eNil))))))))
      (sPass))
      (sRet (e1 listD (e1 lenOk (eCons (eCall m_plain (eCons (eVar 1) (eCons (eVar 0) (eNil)))) (eStar (e2 mulD (e1 listD (eCons (eC (.tuple [.int 0, .int 1])) (eNil))) (e2 subD (e2 subD (eVarB 0) (eVarB 1)) (eC (.int 2)))) (eNil))))))))
theorem sc_weights_in : FnScope ["n", "m", "word", "i"] ["n", "m", "word"] (defScope st_weights_in) := ⟨rfl, rfl, rfl, by decide +kernel, rfl, by decide +kernel, by decide +kernel⟩
theorem ok_weights_in {w : World} {K : PySem.W.Frag} {mg : Str → Option Value} {base : Heap} (m : M K mg) {fd : FuncData} (F : FnP K "weights_in" st_weights_in (He.ga K "weights_in") fd) : FnOk PP w K mg base (L2.CX PP w) 4 (He.ga K "weights_in") fd ["n", "m", "word"] (spOf K mg 3 m_weights_in) := by
  obtain ⟨fd_most_weight, F_most_weight⟩ := m.fn_most_weight
  have k_most_weight := ok_most_weight (w := w) (base := base) m F_most_weight
  have b_most_weight : Binds K fd_most_weight ["n", "m", "i"] [] := FunD.bindsN (ps := ["n", "m", "i"]) F_most_weight fun _ _ _ _ _ _ us hl => match us, hl with | [_, _, _], _ => rfl
  obtain ⟨fd_plain, F_plain⟩ := m.fn_plain
  have k_plain := ok_plain (w := w) (base := base) m F_plain
  have b_plain : Binds K fd_plain ["n", "d"] [] := FunD.bindsN (ps := ["n", "d"]) F_plain fun _ _ _ _ _ _ us hl => match us, hl with | [_, _], _ => rfl
  exact fnD_ok F sc_weights_in rfl rfl (by decide) fun cdv A outer s H E hr =>
   ps_seq (pq_if (pf_cmpT cm_lt (pf_varB 0) (pf_b (pf_add rfl (pf_varB 1) (pf_b (pf_int)))))
      (ps_1 (pq_ret (pf_n (pf_lst (pf_nil) (by decide) (len_nil)))))
      (ps_nil))
      (ps_seq (pq_if (pf_cmpT (cm_eq rfl (u64 hr)) (pf_varB 2) (pf_b (pf_str)))
      (ps_1 (pq_ret (pf_n (pf_lc (own := [("i", 3)]) rfl sc_weights_in.nd (pf_range2 rfl (m.fr_range) (pf_consB (pf_b (pf_add rfl (pf_varB 1) (pf_b (pf_int)))) (pf_consB (pf_varB 0) (pf_nilB)))) (blkOk_by (by kernel_rfl)) (fun _ _ _ _ _ => pf_gname 3 sc_weights_in.nd rfl (by first | exact Or.inl rfl | exact Or.inr rfl)) (fun _ _ _ _ _ => pf_tyes) (fun _ _ _ _ _ => pf_call k_most_weight (hr.mono (by decide)) rfl m.gl_most_weight F_most_weight.kp b_most_weight Pf.takes0 (pf_cons (pf_var 0) (pf_cons (pf_var 1) (pf_cons (pf_var 3) (pf_nil)))) (len_cons (len_cons (len_cons (len_nil)))))))))
      (ps_nil))
      (ps_1 (pq_ret (pf_n (pf_lstV (pf_cons (pf_call k_plain (hr.mono (by decide)) rfl m.gl_plain F_plain.kp b_plain (takes_of rfl rfl rfl rfl) (pf_cons (pf_var 1) (pf_cons (pf_var 0) (pf_nil))) (len_cons (len_cons (len_nil)))) (pf_star (pf_b (pf_mul (pf_b (pf_n (pf_lst (pf_cons (pf_gtupK rfl m.gl_ZERO m.tu_ZERO) (pf_nil)) (by decide) (len_cons (len_nil))))) (pf_b (pf_sub (pf_b (pf_sub (pf_varB 0) (pf_varB 1))) (pf_b (pf_int)))))) (pf_nil))))))))
def m_weights_of : List PyData → Res PyData := mDef 3 0 (
 sSeq (sIf (eNot (eChain leD leD (eC (.int 1)) (eVarB 0) (eC (.int 10))))
      (sRaise "BadBook" (eVarB 0))
      (sPass))
      (sSeq (sIf (eNot (eChain leD leD (eC (.int 1)) (eVarB 1) (eC (.int 8))))
      (sRaise "BadPieces" (eVarB 1))
      (sPass))
      (sSeq (sExpr (eCall m_check_word (eCons (eVar 2) (eNil))))
      (sRet (eCall m_weights_in (eCons (eVar 0) (eCons (eVar 1) (eCons (eVar 2) (eNil)))))))))
theorem sc_weights_of : FnScope ["many", "pieces", "word"] ["many", "pieces", "word"] (defScope st_weights_of) := ⟨rfl, rfl, rfl, by decide +kernel, rfl, by decide +kernel, by decide +kernel⟩
theorem ok_weights_of {w : World} {K : PySem.W.Frag} {mg : Str → Option Value} {base : Heap} (m : M K mg) {fd : FuncData} (F : FnP K "weights_of" st_weights_of (He.ga K "weights_of") fd) : FnOk PP w K mg base (L2.CX PP w) 5 (He.ga K "weights_of") fd ["many", "pieces", "word"] (spOf K mg 3 m_weights_of) := by
  obtain ⟨fd_check_word, F_check_word⟩ := m.fn_check_word
  have k_check_word := ok_check_word (w := w) (base := base) m F_check_word
  have b_check_word : Binds K fd_check_word ["word"] [] := FunD.bindsN (ps := ["word"]) F_check_word fun _ _ _ _ _ _ us hl => match us, hl with | [_], _ => rfl
  obtain ⟨fd_weights_in, F_weights_in⟩ := m.fn_weights_in
  have k_weights_in := ok_weights_in (w := w) (base := base) m F_weights_in
  have b_weights_in : Binds K fd_weights_in ["n", "m", "word"] [] := FunD.bindsN (ps := ["n", "m", "word"]) F_weights_in fun _ _ _ _ _ _ us hl => match us, hl with | [_, _, _], _ => rfl
  obtain ⟨fdI, Ii, bI⟩ := m.init
  exact fnD_ok F sc_weights_of rfl rfl (by decide) fun cdv A outer s H E hr =>
   ps_seq (pq_if (pf_not (pf_chainT cm_le cm_le (pf_b (pf_int)) (pf_varB 0) (pf_b (pf_gint rfl (m.in_MOST_BIDDERS)))))
      (ps_1 (pq_raise rfl (takes_of rfl rfl rfl rfl) m.ex_BadBook (init_ok Ii isc) (hr.mono (by decide)) bI rfl m.gl_BadBook (pf_varB 0)))
      (ps_nil))
      (ps_seq (pq_if (pf_not (pf_chainT cm_le cm_le (pf_b (pf_int)) (pf_varB 1) (pf_b (pf_gint rfl (m.in_MOST_PIECES)))))
      (ps_1 (pq_raise rfl (takes_of rfl rfl rfl rfl) m.ex_BadPieces (init_ok Ii isc) (hr.mono (by decide)) bI rfl m.gl_BadPieces (pf_varB 1)))
      (ps_nil))
      (ps_seq (pq_expr (pf_b (pf_call k_check_word (hr.mono (by decide)) rfl m.gl_check_word F_check_word.kp b_check_word (takes_of rfl rfl rfl rfl) (pf_cons (pf_var 2) (pf_nil)) (len_cons (len_nil)))))
      (ps_1 (pq_ret (pf_call k_weights_in (hr.mono (by decide)) rfl m.gl_weights_in F_weights_in.kp b_weights_in (takes_of rfl rfl rfl rfl) (pf_cons (pf_var 0) (pf_cons (pf_var 1) (pf_cons (pf_var 2) (pf_nil)))) (len_cons (len_cons (len_cons (len_nil)))))))))
def m_back_to : List PyData → Res PyData := mDef 4 5 (
 sSeq (sSet 4 (e1 listD (e1 revL (e1 listD (e1 sortedN (eCons (e1 listD (e1 lenOk (eStar (eSl slT (eVarB 0) (eNone) (e1 asI (eVarB 3))) (eStar (eSl slT (eVarB 0) (e1 asI (e2 addD (eVarB 3) (eC (.int 1)))) (eNone)) (eNil))))) eNil))))))
      (sSeq (sSet 5 (eC (.tuple [.int 0, .int 1])))
      (sSeq (sFor (e1 zipL (eCons (eCall m_weights_in (eCons (e1 lenD (eCons (eVarB 0) eNil)) (eCons (eVar 1) (eCons (eVar 2) (eNil))))) (eCons (eSl slT (eVarB 4) (e1 asI (eVarB 1)) (eNone)) (eNil)))) (gUnp (gsCons (gUnp (gsCons (gSet 6) (gsCons (gSet 7) (gsNil)))) (gsCons (gSet 8) (gsNil))))
      (sSet 5 (eCall m_plain (eCons (e2 addD (e2 mulD (e2 ixD (eVarB 5) (eC (.int 0))) (eVarB 7)) (e2 mulD (e2 mulD (eVarB 6) (eVarB 8)) (e2 ixD (eVarB 5) (eC (.int 1))))) (eCons (e2 mulD (e2 ixD (eVarB 5) (eC (.int 1))) (eVarB 7)) (eNil))))))
      (sRet (eVar 5)))))
theorem sc_back_to : FnScope ["worths", "pieces", "word", "k", "others", "whole", "n", "d", "worth"] ["worths", "pieces", "word", "k"] (defScope st_back_to) := ⟨rfl, rfl, rfl, by decide +kernel, rfl, by decide +kernel, by decide +kernel⟩
theorem ok_back_to {w : World} {K : PySem.W.Frag} {mg : Str → Option Value} {base : Heap} (m : M K mg) {fd : FuncData} (F : FnP K "back_to" st_back_to (He.ga K "back_to") fd) : FnOk PP w K mg base (L2.CX PP w) 5 (He.ga K "back_to") fd ["worths", "pieces", "word", "k"] (spOf K mg 4 m_back_to) := by
  obtain ⟨fd_weights_in, F_weights_in⟩ := m.fn_weights_in
  have k_weights_in := ok_weights_in (w := w) (base := base) m F_weights_in
  have b_weights_in : Binds K fd_weights_in ["n", "m", "word"] [] := FunD.bindsN (ps := ["n", "m", "word"]) F_weights_in fun _ _ _ _ _ _ us hl => match us, hl with | [_, _, _], _ => rfl
  obtain ⟨fd_plain, F_plain⟩ := m.fn_plain
  have k_plain := ok_plain (w := w) (base := base) m F_plain
  have b_plain : Binds K fd_plain ["n", "d"] [] := FunD.bindsN (ps := ["n", "d"]) F_plain fun _ _ _ _ _ _ us hl => match us, hl with | [_, _], _ => rfl
  exact fnD_ok F sc_back_to rfl rfl (by decide) fun cdv A outer s H E hr =>
   ps_seq (pq_set (i := 4) sc_back_to.nd rfl (by first | exact Or.inl rfl | exact Or.inr rfl) (pf_n (pf_revN (pf_b (pf_n (pf_sorted (m.fr_sorted) (pf_b (pf_n (pf_lstV (pf_star (pf_b (pf_slF rfl (pf_varB 0) (pf_pnone) (pf_psome (pf_varB 3)))) (pf_star (pf_b (pf_slF rfl (pf_varB 0) (pf_psome (pf_b (pf_add rfl (pf_varB 3) (pf_b (pf_int))))) (pf_pnone))) (pf_nil))))))))))))
      (ps_seq (pq_set (i := 5) sc_back_to.nd rfl (by first | exact Or.inl rfl | exact Or.inr rfl) (pf_gtupK rfl m.gl_ZERO m.tu_ZERO))
      (ps_seq (pq_for (passes_of rfl) rfl (pf_zipF rfl rfl (m.fr_zip) (pf_cons (pf_call k_weights_in (hr.mono (by decide)) rfl m.gl_weights_in F_weights_in.kp b_weights_in (takes_of rfl rfl rfl rfl) (pf_cons (pf_len (m.fr_len) (pf_varB 0)) (pf_cons (pf_var 1) (pf_cons (pf_var 2) (pf_nil)))) (len_cons (len_cons (len_cons (len_nil))))) (pf_cons (pf_slF rfl (pf_varB 4) (pf_psome (pf_varB 1)) (pf_pnone)) (pf_nil)))) (pf_gtup rfl rfl (pf_gcons (pf_gtup rfl rfl (pf_gcons (pf_gname 6 sc_back_to.nd rfl (by first | exact Or.inl rfl | exact Or.inr rfl)) (pf_gcons (pf_gname 7 sc_back_to.nd rfl (by first | exact Or.inl rfl | exact Or.inr rfl)) (pf_gnil))) (gsCons_len (gsCons_len (gsNil_len)))) (pf_gcons (pf_gname 8 sc_back_to.nd rfl (by first | exact Or.inl rfl | exact Or.inr rfl)) (pf_gnil))) (gsCons_len (gsCons_len (gsNil_len))))
      (ps_1 (pq_set (i := 5) sc_back_to.nd rfl (by first | exact Or.inl rfl | exact Or.inr rfl) (pf_call k_plain (hr.mono (by decide)) rfl m.gl_plain F_plain.kp b_plain (takes_of rfl rfl rfl rfl) (pf_cons (pf_add rfl (pf_b (pf_mul (pf_b (pf_sub1 rfl (pf_varB 5) (pf_b (pf_int)))) (pf_varB 7))) (pf_b (pf_mul (pf_b (pf_mul (pf_varB 6) (pf_varB 8))) (pf_b (pf_sub1 rfl (pf_varB 5) (pf_b (pf_int))))))) (pf_cons (pf_mul (pf_b (pf_sub1 rfl (pf_varB 5) (pf_b (pf_int)))) (pf_varB 7)) (pf_nil))) (len_cons (len_cons (len_nil)))))))
      (ps_1 (pq_ret (pf_var 5)))))
def m_given_back : List PyData → Res PyData := mDef 3 1 (
 sSeq (sExpr (eCall m_check_worths (eCons (eVar 0) (eCons (eVar 1) (eNil)))))
      (sSeq (sExpr (eCall m_check_word (eCons (eVar 2) (eNil))))
      (sRet (e1 listD (eComp [3] (e1 rg1 (eCons (e1 lenD (eCons (eVarB 0) eNil)) (eNil))) (gSet 3) (eTrue) (eCall m_back_to (eCons (eVar 0) (eCons (eVar 1) (eCons (eVar 2) (eCons (eVar 3) (eNil)))))))))))
theorem sc_given_back : FnScope ["worths", "pieces", "word", "k"] ["worths", "pieces", "word"] (defScope st_given_back) := ⟨rfl, rfl, rfl, by decide +kernel, rfl, by decide +kernel, by decide +kernel⟩
theorem ok_given_back {w : World} {K : PySem.W.Frag} {mg : Str → Option Value} {base : Heap} (m : M K mg) {fd : FuncData} (F : FnP K "given_back" st_given_back (He.ga K "given_back") fd) : FnOk PP w K mg base (L2.CX PP w) 6 (He.ga K "given_back") fd ["worths", "pieces", "word"] (spOf K mg 3 m_given_back) := by
  obtain ⟨fd_check_worths, F_check_worths⟩ := m.fn_check_worths
  have k_check_worths := ok_check_worths (w := w) (base := base) m F_check_worths
  have b_check_worths : Binds K fd_check_worths ["worths", "pieces"] [] := FunD.bindsN (ps := ["worths", "pieces"]) F_check_worths fun _ _ _ _ _ _ us hl => match us, hl with | [_, _], _ => rfl
  obtain ⟨fd_check_word, F_check_word⟩ := m.fn_check_word
  have k_check_word := ok_check_word (w := w) (base := base) m F_check_word
  have b_check_word : Binds K fd_check_word ["word"] [] := FunD.bindsN (ps := ["word"]) F_check_word fun _ _ _ _ _ _ us hl => match us, hl with | [_], _ => rfl
  obtain ⟨fd_back_to, F_back_to⟩ := m.fn_back_to
  have k_back_to := ok_back_to (w := w) (base := base) m F_back_to
  have b_back_to : Binds K fd_back_to ["worths", "pieces", "word", "k"] [] := FunD.bindsN (ps := ["worths", "pieces", "word", "k"]) F_back_to fun _ _ _ _ _ _ us hl => match us, hl with | [_, _, _, _], _ => rfl
  exact fnD_ok F sc_given_back rfl rfl (by decide) fun cdv A outer s H E hr =>
   ps_seq (pq_expr (pf_b (pf_call k_check_worths (hr.mono (by decide)) rfl m.gl_check_worths F_check_worths.kp b_check_worths (takes_of rfl rfl rfl rfl) (pf_cons (pf_var 0) (pf_cons (pf_var 1) (pf_nil))) (len_cons (len_cons (len_nil))))))
      (ps_seq (pq_expr (pf_b (pf_call k_check_word (hr.mono (by decide)) rfl m.gl_check_word F_check_word.kp b_check_word (takes_of rfl rfl rfl rfl) (pf_cons (pf_var 2) (pf_nil)) (len_cons (len_nil)))))
      (ps_1 (pq_ret (pf_n (pf_lc (own := [("k", 3)]) rfl sc_given_back.nd (pf_range1 rfl (m.fr_range) (pf_consB (pf_b (pf_len (m.fr_len) (pf_varB 0))) (pf_nilB))) (blkOk_by (by kernel_rfl)) (fun _ _ _ _ _ => pf_gname 3 sc_given_back.nd rfl (by first | exact Or.inl rfl | exact Or.inr rfl)) (fun _ _ _ _ _ => pf_tyes) (fun _ _ _ _ _ => pf_call k_back_to (hr.mono (by decide)) rfl m.gl_back_to F_back_to.kp b_back_to Pf.takes0 (pf_cons (pf_var 0) (pf_cons (pf_var 1) (pf_cons (pf_var 2) (pf_cons (pf_var 3) (pf_nil))))) (len_cons (len_cons (len_cons (len_cons (len_nil)))))))))))
def m_left_over : List PyData → Res PyData := mDef 3 3 (
 sSeq (sSet 3 (e1 tupD (eCons (eCall m_income_of (eCons (eVar 0) (eCons (eVar 1) (eNil)))) (eCons (eC (.int 1)) (eNil)))))
      (sSeq (sFor (e1 itL (eCall m_given_back (eCons (eVar 0) (eCons (eVar 1) (eCons (eVar 2) (eNil)))))) (gUnp (gsCons (gSet 4) (gsCons (gSet 5) (gsNil))))
      (sSet 3 (eCall m_plain (eCons (e2 subD (e2 mulD (e2 ixD (eVarB 3) (eC (.int 0))) (eVarB 5)) (e2 mulD (eVarB 4) (e2 ixD (eVarB 3) (eC (.int 1))))) (eCons (e2 mulD (e2 ixD (eVarB 3) (eC (.int 1))) (eVarB 5)) (eNil))))))
      (sRet (eVar 3))))
theorem sc_left_over : FnScope ["worths", "pieces", "word", "whole", "n", "d"] ["worths", "pieces", "word"] (defScope st_left_over) := ⟨rfl, rfl, rfl, by decide +kernel, rfl, by decide +kernel, by decide +kernel⟩
theorem ok_left_over {w : World} {K : PySem.W.Frag} {mg : Str → Option Value} {base : Heap} (m : M K mg) {fd : FuncData} (F : FnP K "left_over" st_left_over (He.ga K "left_over") fd) : FnOk PP w K mg base (L2.CX PP w) 7 (He.ga K "left_over") fd ["worths", "pieces", "word"] (spOf K mg 3 m_left_over) := by
  obtain ⟨fd_income_of, F_income_of⟩ := m.fn_income_of
  have k_income_of := ok_income_of (w := w) (base := base) m F_income_of
  have b_income_of : Binds K fd_income_of ["worths", "pieces"] [] := FunD.bindsN (ps := ["worths", "pieces"]) F_income_of fun _ _ _ _ _ _ us hl => match us, hl with | [_, _], _ => rfl
  obtain ⟨fd_given_back, F_given_back⟩ := m.fn_given_back
  have k_given_back := ok_given_back (w := w) (base := base) m F_given_back
  have b_given_back : Binds K fd_given_back ["worths", "pieces", "word"] [] := FunD.bindsN (ps := ["worths", "pieces", "word"]) F_given_back fun _ _ _ _ _ _ us hl => match us, hl with | [_, _, _], _ => rfl
  obtain ⟨fd_plain, F_plain⟩ := m.fn_plain
  have k_plain := ok_plain (w := w) (base := base) m F_plain
  have b_plain : Binds K fd_plain ["n", "d"] [] := FunD.bindsN (ps := ["n", "d"]) F_plain fun _ _ _ _ _ _ us hl => match us, hl with | [_, _], _ => rfl
  exact fnD_ok F sc_left_over rfl rfl (by decide) fun cdv A outer s H E hr =>
   ps_seq (pq_set (i := 3) sc_left_over.nd rfl (by first | exact Or.inl rfl | exact Or.inr rfl) (pf_tup (pf_cons (pf_call k_income_of (hr.mono (by decide)) rfl m.gl_income_of F_income_of.kp b_income_of (takes_of rfl rfl rfl rfl) (pf_cons (pf_var 0) (pf_cons (pf_var 1) (pf_nil))) (len_cons (len_cons (len_nil)))) (pf_cons (pf_int) (pf_nil))) (by decide) (len_cons (len_cons (len_nil)))))
      (ps_seq (pq_for (passes_of rfl) rfl (pf_iF rfl (pf_call k_given_back (hr.mono (by decide)) rfl m.gl_given_back F_given_back.kp b_given_back (takes_of rfl rfl rfl rfl) (pf_cons (pf_var 0) (pf_cons (pf_var 1) (pf_cons (pf_var 2) (pf_nil)))) (len_cons (len_cons (len_cons (len_nil)))))) (pf_gtup rfl rfl (pf_gcons (pf_gname 4 sc_left_over.nd rfl (by first | exact Or.inl rfl | exact Or.inr rfl)) (pf_gcons (pf_gname 5 sc_left_over.nd rfl (by first | exact Or.inl rfl | exact Or.inr rfl)) (pf_gnil))) (gsCons_len (gsCons_len (gsNil_len))))
      (ps_1 (pq_set (i := 3) sc_left_over.nd rfl (by first | exact Or.inl rfl | exact Or.inr rfl) (pf_call k_plain (hr.mono (by decide)) rfl m.gl_plain F_plain.kp b_plain (takes_of rfl rfl rfl rfl) (pf_cons (pf_sub (pf_b (pf_mul (pf_b (pf_sub1 rfl (pf_varB 3) (pf_b (pf_int)))) (pf_varB 5))) (pf_b (pf_mul (pf_varB 4) (pf_b (pf_sub1 rfl (pf_varB 3) (pf_b (pf_int))))))) (pf_cons (pf_mul (pf_b (pf_sub1 rfl (pf_varB 3) (pf_b (pf_int)))) (pf_varB 5)) (pf_nil))) (len_cons (len_cons (len_nil)))))))
      (ps_1 (pq_ret (pf_var 3))))
def m_gain_with : List PyData → Res PyData := mDef 5 4 (
 sSeq (sExpr (eCall m_check_worths (eCons (eVar 0) (eCons (eVar 1) (eNil)))))
      (sSeq (sExpr (eCall m_check_word (eCons (eVar 2) (eNil))))
      (sSeq (sIf (eNot (eChain leD ltD (eC (.int 0)) (eVarB 3) (e1 lenD (eCons (eVarB 0) eNil))))
      (sRaise "BadBidder" (eVarB 3))
      (sPass))
      (sSeq (sIf (eNot (eTb (eCall m_is_worth (eCons (eVar 4) (eNil)))))
      (sRaise "BadWorths" (e1 negD (eC (.int 1))))
      (sPass))
      (sSeq (sSet 5 (e1 listD (e1 lenOk (eStar (eSl slT (eVarB 0) (eNone) (e1 asI (eVarB 3))) (eCons (eVar 4) (eStar (eSl slT (eVarB 0) (e1 asI (e2 addD (eVarB 3) (eC (.int 1)))) (eNone)) (eNil)))))))
      (sSeq (sAsg (gUnp (gsCons (gSet 6) (gsCons (gSet 7) (gsNil)))) (eCall m_back_to (eCons (eVar 5) (eCons (eVar 1) (eCons (eVar 2) (eCons (eVar 3) (eNil)))))))
      (sSeq (sSet 8 (eIf (eTb (e2 inD (eVarB 3) (eCall m_winners_of (eCons (eVar 5) (eCons (eVar 1) (eNil)))))) (e2 subD (e2 ixD (eVarB 0) (eVarB 3)) (eCall m_price_of (eCons (eVar 5) (eCons (eVar 1) (eNil))))) (eC (.int 0))))
      (sRet (eCall m_plain (eCons (e2 addD (eVarB 6) (e2 mulD (eVarB 8) (eVarB 7))) (eCons (eVar 7) (eNil))))))))))))
theorem sc_gain_with : FnScope ["worths", "pieces", "word", "k", "lie", "told", "n", "d", "win"] ["worths", "pieces", "word", "k", "lie"] (defScope st_gain_with) := ⟨rfl, rfl, rfl, by decide +kernel, rfl, by decide +kernel, by decide +kernel⟩
theorem ok_gain_with {w : World} {K : PySem.W.Frag} {mg : Str → Option Value} {base : Heap} (m : M K mg) {fd : FuncData} (F : FnP K "gain_with" st_gain_with (He.ga K "gain_with") fd) : FnOk PP w K mg base (L2.CX PP w) 6 (He.ga K "gain_with") fd ["worths", "pieces", "word", "k", "lie"] (spOf K mg 5 m_gain_with) := by
  obtain ⟨fd_check_worths, F_check_worths⟩ := m.fn_check_worths
  have k_check_worths := ok_check_worths (w := w) (base := base) m F_check_worths
  have b_check_worths : Binds K fd_check_worths ["worths", "pieces"] [] := FunD.bindsN (ps := ["worths", "pieces"]) F_check_worths fun _ _ _ _ _ _ us hl => match us, hl with | [_, _], _ => rfl
  obtain ⟨fd_check_word, F_check_word⟩ := m.fn_check_word
  have k_check_word := ok_check_word (w := w) (base := base) m F_check_word
  have b_check_word : Binds K fd_check_word ["word"] [] := FunD.bindsN (ps := ["word"]) F_check_word fun _ _ _ _ _ _ us hl => match us, hl with | [_], _ => rfl
  obtain ⟨fd_is_worth, F_is_worth⟩ := m.fn_is_worth
  have k_is_worth := ok_is_worth (w := w) (base := base) m F_is_worth
  have b_is_worth : Binds K fd_is_worth ["told"] [] := FunD.bindsN (ps := ["told"]) F_is_worth fun _ _ _ _ _ _ us hl => match us, hl with | [_], _ => rfl
  obtain ⟨fd_back_to, F_back_to⟩ := m.fn_back_to
  have k_back_to := ok_back_to (w := w) (base := base) m F_back_to
  have b_back_to : Binds K fd_back_to ["worths", "pieces", "word", "k"] [] := FunD.bindsN (ps := ["worths", "pieces", "word", "k"]) F_back_to fun _ _ _ _ _ _ us hl => match us, hl with | [_, _, _, _], _ => rfl
  obtain ⟨fd_winners_of, F_winners_of⟩ := m.fn_winners_of
  have k_winners_of := ok_winners_of (w := w) (base := base) m F_winners_of
  have b_winners_of : Binds K fd_winners_of ["worths", "pieces"] [] := FunD.bindsN (ps := ["worths", "pieces"]) F_winners_of fun _ _ _ _ _ _ us hl => match us, hl with | [_, _], _ => rfl
  obtain ⟨fd_price_of, F_price_of⟩ := m.fn_price_of
  have k_price_of := ok_price_of (w := w) (base := base) m F_price_of
  have b_price_of : Binds K fd_price_of ["worths", "pieces"] [] := FunD.bindsN (ps := ["worths", "pieces"]) F_price_of fun _ _ _ _ _ _ us hl => match us, hl with | [_, _], _ => rfl
  obtain ⟨fd_plain, F_plain⟩ := m.fn_plain
  have k_plain := ok_plain (w := w) (base := base) m F_plain
  have b_plain : Binds K fd_plain ["n", "d"] [] := FunD.bindsN (ps := ["n", "d"]) F_plain fun _ _ _ _ _ _ us hl => match us, hl with | [_, _], _ => rfl
  obtain ⟨fdI, Ii, bI⟩ := m.init
  exact fnD_ok F sc_gain_with rfl rfl (by decide) fun cdv A outer s H E hr =>
   ps_seq (pq_expr (pf_b (pf_call k_check_worths (hr.mono (by decide)) rfl m.gl_check_worths F_check_worths.kp b_check_worths (takes_of rfl rfl rfl rfl) (pf_cons (pf_var 0) (pf_cons (pf_var 1) (pf_nil))) (len_cons (len_cons (len_nil))))))
      (ps_seq (pq_expr (pf_b (pf_call k_check_word (hr.mono (by decide)) rfl m.gl_check_word F_check_word.kp b_check_word (takes_of rfl rfl rfl rfl) (pf_cons (pf_var 2) (pf_nil)) (len_cons (len_nil)))))
      (ps_seq (pq_if (pf_not (pf_chainT cm_le cm_lt (pf_b (pf_int)) (pf_varB 3) (pf_b (pf_len (m.fr_len) (pf_varB 0)))))
      (ps_1 (pq_raise rfl (takes_of rfl rfl rfl rfl) m.ex_BadBidder (init_ok Ii isc) (hr.mono (by decide)) bI rfl m.gl_BadBidder (pf_varB 3)))
      (ps_nil))
      (ps_seq (pq_if (pf_not (pf_tv (pf_b (pf_call k_is_worth (hr.mono (by decide)) rfl m.gl_is_worth F_is_worth.kp b_is_worth (takes_of rfl rfl rfl rfl) (pf_cons (pf_var 4) (pf_nil)) (len_cons (len_nil))))))
      (ps_1 (pq_raise rfl (takes_of rfl rfl rfl rfl) m.ex_BadWorths (init_ok Ii isc) (hr.mono (by decide)) bI rfl m.gl_BadWorths (pf_b (pf_neg (pf_b (pf_int))))))
      (ps_nil))
      (ps_seq (pq_set (i := 5) sc_gain_with.nd rfl (by first | exact Or.inl rfl | exact Or.inr rfl) (pf_n (pf_lstV (pf_star (pf_b (pf_slF rfl (pf_varB 0) (pf_pnone) (pf_psome (pf_varB 3)))) (pf_cons (pf_var 4) (pf_star (pf_b (pf_slF rfl (pf_varB 0) (pf_psome (pf_b (pf_add rfl (pf_varB 3) (pf_b (pf_int))))) (pf_pnone))) (pf_nil)))))))
      (ps_seq (pq_asg (pf_call k_back_to (hr.mono (by decide)) rfl m.gl_back_to F_back_to.kp b_back_to (takes_of rfl rfl rfl rfl) (pf_cons (pf_var 5) (pf_cons (pf_var 1) (pf_cons (pf_var 2) (pf_cons (pf_var 3) (pf_nil))))) (len_cons (len_cons (len_cons (len_cons (len_nil)))))) (pf_gtup rfl rfl (pf_gcons (pf_gname 6 sc_gain_with.nd rfl (by first | exact Or.inl rfl | exact Or.inr rfl)) (pf_gcons (pf_gname 7 sc_gain_with.nd rfl (by first | exact Or.inl rfl | exact Or.inr rfl)) (pf_gnil))) (gsCons_len (gsCons_len (gsNil_len)))))
      (ps_seq (pq_set (i := 8) sc_gain_with.nd rfl (by first | exact Or.inl rfl | exact Or.inr rfl) (pf_ifE (.inl rfl) (pf_cmpT (cm_in rfl (u66 hr)) (pf_varB 3) (pf_b (pf_call k_winners_of (hr.mono (by decide)) rfl m.gl_winners_of F_winners_of.kp b_winners_of (takes_of rfl rfl rfl rfl) (pf_cons (pf_var 5) (pf_cons (pf_var 1) (pf_nil))) (len_cons (len_cons (len_nil)))))) (pf_sub (pf_b (pf_sub1 rfl (pf_varB 0) (pf_varB 3))) (pf_b (pf_call k_price_of (hr.mono (by decide)) rfl m.gl_price_of F_price_of.kp b_price_of (takes_of rfl rfl rfl rfl) (pf_cons (pf_var 5) (pf_cons (pf_var 1) (pf_nil))) (len_cons (len_cons (len_nil)))))) (pf_int)))
      (ps_1 (pq_ret (pf_call k_plain (hr.mono (by decide)) rfl m.gl_plain F_plain.kp b_plain (takes_of rfl rfl rfl rfl) (pf_cons (pf_add rfl (pf_varB 6) (pf_b (pf_mul (pf_varB 8) (pf_varB 7)))) (pf_cons (pf_var 7) (pf_nil))) (len_cons (len_cons (len_nil))))))))))))
def m__law_draws : List PyData → Res PyData := mDef 1 5 (
 sSeq (sSetN 1 (eNil))
      (sSeq (sFor (e1 rg1 (eCons (e1 min2D (eCons (eC (.int 63)) (eCons (e1 lenD (eCons (eVarB 0) eNil)) eNil))) (eNil))) (gSet 2)
      (sSeq (sSet 3 (e1 absD (eCons (e2 ixD (eVarB 0) (eVarB 2)) eNil)))
      (sIf (eTb (e2 geD (eVarB 3) (e2 powD (eC (.int 10)) (eC (.int 18)))))
      (sFor (e1 rg1 (eCons (eC (.int 60)) (eNil))) (gSet 4)
      (sIf (eTb (e2 gtD (eVarB 3) (eC (.int 0))))
      (sSeq (sApp 1 (e2 modD (e1 intD (eCons (eVarB 3) eNil)) (eC (.int 65536))))
      (sSet 3 (e2 divD (eVarB 3) (eC (.int 65536)))))
      (sPass)))
      (sSeq (sSet 5 (e2 modD (e1 intD (eCons (e2 addD (e2 mulD (eVarB 3) (eC (.int 48271))) (e2 mulD (e2 addD (eVarB 2) (eC (.int 1))) (eC (.int 69621)))) eNil)) (eC (.int 2147483647))))
      (sSeq (sSet 5 (e2 modD (e1 intD (eCons (e2 addD (e2 addD (e2 mulD (eVarB 5) (eC (.int 16807))) (e2 mulD (eC (.int 11)) (eVarB 2))) (eC (.int 5))) eNil)) (eC (.int 2147483629))))
      (sSeq (sApp 1 (e2 modD (e1 intD (eCons (eVarB 5) eNil)) (eC (.int 65536))))
      (sApp 1 (e2 modD (e1 intD (eCons (e2 divD (eVarB 5) (eC (.int 65536))) eNil)) (eC (.int 32768))))))))))
      (sFrz [1] (sRet (eVar 1)))))
theorem sc__law_draws : FnScope ["script", "draws", "k", "rest", "turn", "stirred"] ["script"] (defScope st__law_draws) := ⟨rfl, rfl, rfl, by decide +kernel, rfl, by decide +kernel, by decide +kernel⟩
theorem ok__law_draws {w : World} {K : PySem.W.Frag} {mg : Str → Option Value} {base : Heap} (m : M K mg) {fd : FuncData} (F : FnP K "_law_draws" st__law_draws (He.ga K "_law_draws") fd) : FnOk PP w K mg base (L2.CX PP w) 1 (He.ga K "_law_draws") fd ["script"] (spOf K mg 1 m__law_draws) := by
  exact fnD_ok F sc__law_draws rfl rfl (by decide) fun cdv A outer s H E hr =>
   ps_seq (pq_setN (i := 1) sc__law_draws.nd rfl (by first | exact Or.inl rfl | exact Or.inr rfl) (pf_lst (pf_nil) (by decide) (len_nil)))
      (ps_seq (pq_for (passes_of rfl) rfl (pf_range1 rfl (m.fr_range) (pf_consB (pf_b (pf_min2 rfl (m.fr_min) (pf_b (pf_int)) (pf_b (pf_len (m.fr_len) (pf_varB 0))))) (pf_nilB))) (pf_gname 2 sc__law_draws.nd rfl (by first | exact Or.inl rfl | exact Or.inr rfl))
      (ps_seq (pq_set (i := 3) sc__law_draws.nd rfl (by first | exact Or.inl rfl | exact Or.inr rfl) (pf_abs (m.fr_abs) (pf_b (pf_sub1 rfl (pf_varB 0) (pf_varB 2)))))
      (ps_1 (pq_if (pf_cmpT cm_ge (pf_varB 3) (pf_b (pf_pow (pf_b (pf_int)) (pf_b (pf_int)))))
      (ps_1 (pq_for (passes_of rfl) rfl (pf_range1 rfl (m.fr_range) (pf_consB (pf_b (pf_int)) (pf_nilB))) (pf_gname 4 sc__law_draws.nd rfl (by first | exact Or.inl rfl | exact Or.inr rfl))
      (ps_1 (pq_if (pf_cmpT cm_gt (pf_varB 3) (pf_b (pf_int)))
      (ps_seq (pq_app (i := 1) rfl (by first | exact Or.inl rfl | exact Or.inr (Or.inl rfl) | exact Or.inr (Or.inr rfl)) (pf_mod (pf_b (pf_int1 (m.fr_int) (pf_varB 3))) (pf_b (pf_int))) (fun ho ha => pe_bm PySem.F.plainAttrs_list PySem.F.slot_list_append PySem.F.type_list_append mt_append ho ha))
      (ps_1 (pq_set (i := 3) sc__law_draws.nd rfl (by first | exact Or.inl rfl | exact Or.inr rfl) (pf_div (pf_varB 3) (pf_b (pf_int))))))
      (ps_nil)))))
      (ps_seq (pq_set (i := 5) sc__law_draws.nd rfl (by first | exact Or.inl rfl | exact Or.inr rfl) (pf_mod (pf_b (pf_int1 (m.fr_int) (pf_b (pf_add rfl (pf_b (pf_mul (pf_varB 3) (pf_b (pf_int)))) (pf_b (pf_mul (pf_b (pf_add rfl (pf_varB 2) (pf_b (pf_int)))) (pf_b (pf_int)))))))) (pf_b (pf_int))))
      (ps_seq (pq_set (i := 5) sc__law_draws.nd rfl (by first | exact Or.inl rfl | exact Or.inr rfl) (pf_mod (pf_b (pf_int1 (m.fr_int) (pf_b (pf_add rfl (pf_b (pf_add rfl (pf_b (pf_mul (pf_varB 5) (pf_b (pf_int)))) (pf_b (pf_mul (pf_b (pf_int)) (pf_varB 2))))) (pf_b (pf_int)))))) (pf_b (pf_int))))
      (ps_seq (pq_app (i := 1) rfl (by first | exact Or.inl rfl | exact Or.inr (Or.inl rfl) | exact Or.inr (Or.inr rfl)) (pf_mod (pf_b (pf_int1 (m.fr_int) (pf_varB 5))) (pf_b (pf_int))) (fun ho ha => pe_bm PySem.F.plainAttrs_list PySem.F.slot_list_append PySem.F.type_list_append mt_append ho ha))
      (ps_1 (pq_app (i := 1) rfl (by first | exact Or.inl rfl | exact Or.inr (Or.inl rfl) | exact Or.inr (Or.inr rfl)) (pf_mod (pf_b (pf_int1 (m.fr_int) (pf_b (pf_div (pf_varB 5) (pf_b (pf_int)))))) (pf_b (pf_int))) (fun ho ha => pe_bm PySem.F.plainAttrs_list PySem.F.slot_list_append PySem.F.type_list_append mt_append ho ha))))))))))
      (ps_1 (pq_frz [1] (pq_ret (pf_var 1)))))
def m__law_mix : List PyData → Res PyData := mDef 3 1 (
 sSeq (sSet 3 (eC (.int 0)))
      (sSeq (sIf (eTb (e2 gtD (e1 lenD (eCons (eVarB 0) eNil)) (eC (.int 0))))
      (sSet 3 (e2 ixD (eVarB 0) (e2 modD (e1 intD (eCons (eVarB 1) eNil)) (e1 lenD (eCons (eVarB 0) eNil)))))
      (sPass))
      (sSeq (sIf (eTb (e2 ltD (eVarB 1) (e1 lenD (eCons (eVarB 0) eNil))))
      (sRet (e2 modD (e1 intD (eCons (eVarB 3) eNil)) (eVarB 2)))
      (sPass))
      (sRet (e2 modD (e1 intD (eCons (e2 divD (e1 intD (eCons (e2 addD (e2 mulD (eVarB 3) (eC (.int 7919))) (e2 mulD (eVarB 1) (eC (.int 104729)))) eNil)) (eC (.int 3))) eNil)) (eVarB 2))))))
theorem sc__law_mix : FnScope ["draws", "k", "many", "cell"] ["draws", "k", "many"] (defScope st__law_mix) := ⟨rfl, rfl, rfl, by decide +kernel, rfl, by decide +kernel, by decide +kernel⟩
theorem ok__law_mix {w : World} {K : PySem.W.Frag} {mg : Str → Option Value} {base : Heap} (m : M K mg) {fd : FuncData} (F : FnP K "_law_mix" st__law_mix (He.ga K "_law_mix") fd) : FnOk PP w K mg base (L2.CX PP w) 1 (He.ga K "_law_mix") fd ["draws", "k", "many"] (spOf K mg 3 m__law_mix) := by
  exact fnD_ok F sc__law_mix rfl rfl (by decide) fun cdv A outer s H E hr =>
   ps_seq (pq_set (i := 3) sc__law_mix.nd rfl (by first | exact Or.inl rfl | exact Or.inr rfl) (pf_int))
      (ps_seq (pq_if (pf_cmpT cm_gt (pf_b (pf_len (m.fr_len) (pf_varB 0))) (pf_b (pf_int)))
      (ps_1 (pq_set (i := 3) sc__law_mix.nd rfl (by first | exact Or.inl rfl | exact Or.inr rfl) (pf_sub1 rfl (pf_varB 0) (pf_b (pf_mod (pf_b (pf_int1 (m.fr_int) (pf_varB 1))) (pf_b (pf_len (m.fr_len) (pf_varB 0))))))))
      (ps_nil))
      (ps_seq (pq_if (pf_cmpT cm_lt (pf_varB 1) (pf_b (pf_len (m.fr_len) (pf_varB 0))))
      (ps_1 (pq_ret (pf_mod (pf_b (pf_int1 (m.fr_int) (pf_varB 3))) (pf_varB 2))))
      (ps_nil))
      (ps_1 (pq_ret (pf_mod (pf_b (pf_int1 (m.fr_int) (pf_b (pf_div (pf_b (pf_int1 (m.fr_int) (pf_b (pf_add rfl (pf_b (pf_mul (pf_varB 3) (pf_b (pf_int)))) (pf_b (pf_mul (pf_varB 1) (pf_b (pf_int)))))))) (pf_b (pf_int)))))) (pf_varB 2))))))
def m__law_common : List PyData → Res PyData := mDef 2 3 (
 sSeq (sParM [2, 3] (mVal (e1 absD (eCons (eVarB 0) eNil)) (mVal (e1 absD (eCons (eVarB 1) eNil)) (mNil))))
      (sSeq (sFor (e1 rg1 (eCons (eC (.int 400)) (eNil))) (gSet 4)
      (sIf (eTb (e2 gtD (eVarB 3) (eC (.int 0))))
      (sParM [2, 3] (mVal (eVar 3) (mVal (e2 modD (e1 intD (eCons (eVarB 2) eNil)) (eVarB 3)) (mNil))))
      (sPass)))
      (sRet (e1 max2D (eCons (eC (.int 1)) (eCons (eVarB 2) eNil))))))
theorem sc__law_common : FnScope ["a", "b", "one", "two", "turn"] ["a", "b"] (defScope st__law_common) := ⟨rfl, rfl, rfl, by decide +kernel, rfl, by decide +kernel, by decide +kernel⟩
theorem ok__law_common {w : World} {K : PySem.W.Frag} {mg : Str → Option Value} {base : Heap} (m : M K mg) {fd : FuncData} (F : FnP K "_law_common" st__law_common (He.ga K "_law_common") fd) : FnOk PP w K mg base (L2.CX PP w) 1 (He.ga K "_law_common") fd ["a", "b"] (spOf K mg 2 m__law_common) := by
  exact fnD_ok F sc__law_common rfl rfl (by decide) fun cdv A outer s H E hr =>
   ps_seq (pq_parM (i := 2) (j := 3) rfl sc__law_common.nd rfl rfl (by decide) rfl rfl (pf_mval (pf_abs (m.fr_abs) (pf_varB 0)) (pf_mval (pf_abs (m.fr_abs) (pf_varB 1)) (pf_mnil))))
      (ps_seq (pq_for (passes_of rfl) rfl (pf_range1 rfl (m.fr_range) (pf_consB (pf_b (pf_int)) (pf_nilB))) (pf_gname 4 sc__law_common.nd rfl (by first | exact Or.inl rfl | exact Or.inr rfl))
      (ps_1 (pq_if (pf_cmpT cm_gt (pf_varB 3) (pf_b (pf_int)))
      (ps_1 (pq_parM (i := 2) (j := 3) rfl sc__law_common.nd rfl rfl (by decide) rfl rfl (pf_mval (pf_var 3) (pf_mval (pf_mod (pf_b (pf_int1 (m.fr_int) (pf_varB 2))) (pf_varB 3)) (pf_mnil)))))
      (ps_nil))))
      (ps_1 (pq_ret (pf_max2 rfl (m.fr_max) (pf_b (pf_int)) (pf_varB 2)))))
def m__law_low : List PyData → Res PyData := mDef 2 1 (
 sSeq (sSet 2 (e2 mulD (eCall m__law_common (eCons (eVar 0) (eCons (eVar 1) (eNil)))) (e2 ixD (e1 listD (eCons (eC (.int 1)) (eCons (e1 negD (eC (.int 1))) (eNil)))) (e1 intD (eCons (e2 ltD (eVarB 1) (eC (.int 0))) eNil)))))
      (sRet (e1 tupD (eCons (e2 divD (eVarB 0) (eVarB 2)) (eCons (e2 divD (eVarB 1) (eVarB 2)) (eNil))))))
theorem sc__law_low : FnScope ["n", "d", "common_v"] ["n", "d"] (defScope st__law_low) := ⟨rfl, rfl, rfl, by decide +kernel, rfl, by decide +kernel, by decide +kernel⟩
theorem ok__law_low {w : World} {K : PySem.W.Frag} {mg : Str → Option Value} {base : Heap} (m : M K mg) {fd : FuncData} (F : FnP K "_law_low" st__law_low (He.ga K "_law_low") fd) : FnOk PP w K mg base (L2.CX PP w) 2 (He.ga K "_law_low") fd ["n", "d"] (spOf K mg 2 m__law_low) := by
  obtain ⟨fd__law_common, F__law_common⟩ := m.fn__law_common
  have k__law_common := ok__law_common (w := w) (base := base) m F__law_common
  have b__law_common : Binds K fd__law_common ["a", "b"] [] := FunD.bindsN (ps := ["a", "b"]) F__law_common fun _ _ _ _ _ _ us hl => match us, hl with | [_, _], _ => rfl
  exact fnD_ok F sc__law_low rfl rfl (by decide) fun cdv A outer s H E hr =>
   ps_seq (pq_set (i := 2) sc__law_low.nd rfl (by first | exact Or.inl rfl | exact Or.inr rfl) (pf_mul (pf_b (pf_call k__law_common (hr.mono (by decide)) rfl m.gl__law_common F__law_common.kp b__law_common (takes_of rfl rfl rfl rfl) (pf_cons (pf_var 0) (pf_cons (pf_var 1) (pf_nil))) (len_cons (len_cons (len_nil))))) (pf_b (pf_sub1 rfl (pf_b (pf_n (pf_lst (pf_cons (pf_int) (pf_cons (pf_neg (pf_b (pf_int))) (pf_nil))) (by decide) (len_cons (len_cons (len_nil)))))) (pf_b (pf_int1 (m.fr_int) (pf_b (pf_cmpV cm_lt (pf_varB 1) (pf_b (pf_int))))))))))
      (ps_1 (pq_ret (pf_tup (pf_cons (pf_div (pf_varB 0) (pf_varB 2)) (pf_cons (pf_div (pf_varB 1) (pf_varB 2)) (pf_nil))) (by decide) (len_cons (len_cons (len_nil))))))
def m__law_add : List PyData → Res PyData := mDef 2 0 (
 sRet (eCall m__law_low (eCons (e2 addD (e2 mulD (e2 ixD (eVarB 0) (eC (.int 0))) (e2 ixD (eVarB 1) (eC (.int 1)))) (e2 mulD (e2 ixD (eVarB 1) (eC (.int 0))) (e2 ixD (eVarB 0) (eC (.int 1))))) (eCons (e2 mulD (e2 ixD (eVarB 0) (eC (.int 1))) (e2 ixD (eVarB 1) (eC (.int 1)))) (eNil)))))
theorem sc__law_add : FnScope ["one", "two"] ["one", "two"] (defScope st__law_add) := ⟨rfl, rfl, rfl, by decide +kernel, rfl, by decide +kernel, by decide +kernel⟩
theorem ok__law_add {w : World} {K : PySem.W.Frag} {mg : Str → Option Value} {base : Heap} (m : M K mg) {fd : FuncData} (F : FnP K "_law_add" st__law_add (He.ga K "_law_add") fd) : FnOk PP w K mg base (L2.CX PP w) 3 (He.ga K "_law_add") fd ["one", "two"] (spOf K mg 2 m__law_add) := by
  obtain ⟨fd__law_low, F__law_low⟩ := m.fn__law_low
  have k__law_low := ok__law_low (w := w) (base := base) m F__law_low
  have b__law_low : Binds K fd__law_low ["n", "d"] [] := FunD.bindsN (ps := ["n", "d"]) F__law_low fun _ _ _ _ _ _ us hl => match us, hl with | [_, _], _ => rfl
  exact fnD_ok F sc__law_add rfl rfl (by decide) fun cdv A outer s H E hr =>
   ps_1 (pq_ret (pf_call k__law_low (hr.mono (by decide)) rfl m.gl__law_low F__law_low.kp b__law_low (takes_of rfl rfl rfl rfl) (pf_cons (pf_add rfl (pf_b (pf_mul (pf_b (pf_sub1 rfl (pf_varB 0) (pf_b (pf_int)))) (pf_b (pf_sub1 rfl (pf_varB 1) (pf_b (pf_int)))))) (pf_b (pf_mul (pf_b (pf_sub1 rfl (pf_varB 1) (pf_b (pf_int)))) (pf_b (pf_sub1 rfl (pf_varB 0) (pf_b (pf_int))))))) (pf_cons (pf_mul (pf_b (pf_sub1 rfl (pf_varB 0) (pf_b (pf_int)))) (pf_b (pf_sub1 rfl (pf_varB 1) (pf_b (pf_int))))) (pf_nil))) (len_cons (len_cons (len_nil)))))
def m__law_times : List PyData → Res PyData := mDef 2 0 (
 sRet (eCall m__law_low (eCons (e2 mulD (e2 ixD (eVarB 0) (eC (.int 0))) (e2 ixD (eVarB 1) (eC (.int 0)))) (eCons (e2 mulD (e2 ixD (eVarB 0) (eC (.int 1))) (e2 ixD (eVarB 1) (eC (.int 1)))) (eNil)))))
theorem sc__law_times : FnScope ["one", "two"] ["one", "two"] (defScope st__law_times) := ⟨rfl, rfl, rfl, by decide +kernel, rfl, by decide +kernel, by decide +kernel⟩
theorem ok__law_times {w : World} {K : PySem.W.Frag} {mg : Str → Option Value} {base : Heap} (m : M K mg) {fd : FuncData} (F : FnP K "_law_times" st__law_times (He.ga K "_law_times") fd) : FnOk PP w K mg base (L2.CX PP w) 3 (He.ga K "_law_times") fd ["one", "two"] (spOf K mg 2 m__law_times) := by
  obtain ⟨fd__law_low, F__law_low⟩ := m.fn__law_low
  have k__law_low := ok__law_low (w := w) (base := base) m F__law_low
  have b__law_low : Binds K fd__law_low ["n", "d"] [] := FunD.bindsN (ps := ["n", "d"]) F__law_low fun _ _ _ _ _ _ us hl => match us, hl with | [_, _], _ => rfl
  exact fnD_ok F sc__law_times rfl rfl (by decide) fun cdv A outer s H E hr =>
   ps_1 (pq_ret (pf_call k__law_low (hr.mono (by decide)) rfl m.gl__law_low F__law_low.kp b__law_low (takes_of rfl rfl rfl rfl) (pf_cons (pf_mul (pf_b (pf_sub1 rfl (pf_varB 0) (pf_b (pf_int)))) (pf_b (pf_sub1 rfl (pf_varB 1) (pf_b (pf_int))))) (pf_cons (pf_mul (pf_b (pf_sub1 rfl (pf_varB 0) (pf_b (pf_int)))) (pf_b (pf_sub1 rfl (pf_varB 1) (pf_b (pf_int))))) (pf_nil))) (len_cons (len_cons (len_nil)))))
def m__law_sum : List PyData → Res PyData := mDef 1 2 (
 sSeq (sSet 1 (e1 tupD (eCons (eC (.int 0)) (eCons (eC (.int 1)) (eNil)))))
      (sSeq (sFor (e1 itL (eVar 0)) (gSet 2)
      (sSet 1 (eCall m__law_add (eCons (eVar 1) (eCons (eVar 2) (eNil))))))
      (sRet (eVar 1))))
theorem sc__law_sum : FnScope ["rows", "found", "one"] ["rows"] (defScope st__law_sum) := ⟨rfl, rfl, rfl, by decide +kernel, rfl, by decide +kernel, by decide +kernel⟩
theorem ok__law_sum {w : World} {K : PySem.W.Frag} {mg : Str → Option Value} {base : Heap} (m : M K mg) {fd : FuncData} (F : FnP K "_law_sum" st__law_sum (He.ga K "_law_sum") fd) : FnOk PP w K mg base (L2.CX PP w) 4 (He.ga K "_law_sum") fd ["rows"] (spOf K mg 1 m__law_sum) := by
  obtain ⟨fd__law_add, F__law_add⟩ := m.fn__law_add
  have k__law_add := ok__law_add (w := w) (base := base) m F__law_add
  have b__law_add : Binds K fd__law_add ["one", "two"] [] := FunD.bindsN (ps := ["one", "two"]) F__law_add fun _ _ _ _ _ _ us hl => match us, hl with | [_, _], _ => rfl
  exact fnD_ok F sc__law_sum rfl rfl (by decide) fun cdv A outer s H E hr =>
   ps_seq (pq_set (i := 1) sc__law_sum.nd rfl (by first | exact Or.inl rfl | exact Or.inr rfl) (pf_tup (pf_cons (pf_int) (pf_cons (pf_int) (pf_nil))) (by decide) (len_cons (len_cons (len_nil)))))
      (ps_seq (pq_for (passes_of rfl) rfl (pf_iF rfl (pf_var 0)) (pf_gname 2 sc__law_sum.nd rfl (by first | exact Or.inl rfl | exact Or.inr rfl))
      (ps_1 (pq_set (i := 1) sc__law_sum.nd rfl (by first | exact Or.inl rfl | exact Or.inr rfl) (pf_call k__law_add (hr.mono (by decide)) rfl m.gl__law_add F__law_add.kp b__law_add (takes_of rfl rfl rfl rfl) (pf_cons (pf_var 1) (pf_cons (pf_var 2) (pf_nil))) (len_cons (len_cons (len_nil)))))))
      (ps_1 (pq_ret (pf_var 1))))
def m__law_sets : List PyData → Res PyData := mDef 2 3 (
 sSeq (sSet 2 (e1 listD (eCons (eC (.int 1)) (eNil))))
      (sSeq (sFor (e1 rg1 (eCons (eVarB 0) (eNil))) (gSet 3)
      (sSet 2 (e2 addD (e2 addD (e1 listD (eCons (eC (.int 1)) (eNil))) (e1 listD (eComp [4] (e1 rg1 (eCons (e2 subD (e1 lenD (eCons (eVarB 2) eNil)) (eC (.int 1))) (eNil))) (gSet 4) (eTrue) (e2 addD (e2 ixD (eVarB 2) (eVarB 4)) (e2 ixD (eVarB 2) (e2 addD (eVarB 4) (eC (.int 1)))))))) (e1 listD (eCons (eC (.int 1)) (eNil))))))
      (sRet (e2 ixD (e2 addD (eVarB 2) (e2 mulD (e1 listD (eCons (eC (.int 0)) (eNil))) (eC (.int 12)))) (eVarB 1)))))
theorem sc__law_sets : FnScope ["things", "many", "row", "turn", "t"] ["things", "many"] (defScope st__law_sets) := ⟨rfl, rfl, rfl, by decide +kernel, rfl, by decide +kernel, by decide +kernel⟩
theorem ok__law_sets {w : World} {K : PySem.W.Frag} {mg : Str → Option Value} {base : Heap} (m : M K mg) {fd : FuncData} (F : FnP K "_law_sets" st__law_sets (He.ga K "_law_sets") fd) : FnOk PP w K mg base (L2.CX PP w) 1 (He.ga K "_law_sets") fd ["things", "many"] (spOf K mg 2 m__law_sets) := by
  exact fnD_ok F sc__law_sets rfl rfl (by decide) fun cdv A outer s H E hr =>
   ps_seq (pq_set (i := 2) sc__law_sets.nd rfl (by first | exact Or.inl rfl | exact Or.inr rfl) (pf_n (pf_lst (pf_cons (pf_int) (pf_nil)) (by decide) (len_cons (len_nil)))))
      (ps_seq (pq_for (passes_of rfl) rfl (pf_range1 rfl (m.fr_range) (pf_consB (pf_varB 0) (pf_nilB))) (pf_gname 3 sc__law_sets.nd rfl (by first | exact Or.inl rfl | exact Or.inr rfl))
      (ps_1 (pq_set (i := 2) sc__law_sets.nd rfl (by first | exact Or.inl rfl | exact Or.inr rfl) (pf_add rfl (pf_b (pf_add rfl (pf_b (pf_n (pf_lst (pf_cons (pf_int) (pf_nil)) (by decide) (len_cons (len_nil))))) (pf_b (pf_n (pf_lc (own := [("t", 4)]) rfl sc__law_sets.nd (pf_range1 rfl (m.fr_range) (pf_consB (pf_b (pf_sub (pf_b (pf_len (m.fr_len) (pf_varB 2))) (pf_b (pf_int)))) (pf_nilB))) (blkOk_by (by kernel_rfl)) (fun _ _ _ _ _ => pf_gname 4 sc__law_sets.nd rfl (by first | exact Or.inl rfl | exact Or.inr rfl)) (fun _ _ _ _ _ => pf_tyes) (fun _ _ _ _ _ => pf_add rfl (pf_b (pf_sub1 rfl (pf_varB 2) (pf_varB 4))) (pf_b (pf_sub1 rfl (pf_varB 2) (pf_b (pf_add rfl (pf_varB 4) (pf_b (pf_int)))))))))))) (pf_b (pf_n (pf_lst (pf_cons (pf_int) (pf_nil)) (by decide) (len_cons (len_nil)))))))))
      (ps_1 (pq_ret (pf_sub1 rfl (pf_b (pf_add rfl (pf_varB 2) (pf_b (pf_mul (pf_b (pf_n (pf_lst (pf_cons (pf_int) (pf_nil)) (by decide) (len_cons (len_nil))))) (pf_b (pf_int)))))) (pf_varB 1)))))
def m__law_weights : List PyData → Res PyData := mDef 3 6 (
 sSeq (sIf (eTb (e2 ltD (eVarB 0) (e2 addD (eVarB 1) (eC (.int 2)))))
      (sRet (e1 listD (eNil)))
      (sPass))
      (sSeq (sIf (eTb (e2 eqD (eVarB 2) (eC (.str "even"))))
      (sRet (e2 addD (e1 listD (eCons (eCall m__law_low (eCons (eVar 1) (eCons (eVar 0) (eNil)))) (eNil))) (e2 mulD (e1 listD (eCons (e1 tupD (eCons (eC (.int 0)) (eCons (eC (.int 1)) (eNil)))) (eNil))) (e2 subD (e2 subD (eVarB 0) (eVarB 1)) (eC (.int 2))))))
      (sPass))
      (sSeq (sParM [3, 4] (mVal (e1 sumD (eCons (e1 listD (eComp [8] (e1 rg2 (eCons (eVarB 1) (eCons (eVarB 0) (eNil)))) (gSet 8) (eTrue) (eCall m__law_sets (eCons (e2 subD (eVarB 0) (eC (.int 1))) (eCons (eVar 8) (eNil)))))) eNil)) (mOwn (eNil) (mNil))))
      (sSeq (sFor (e1 rg2 (eCons (e2 addD (eVarB 1) (eC (.int 1))) (eCons (eVarB 0) (eNil)))) (gSet 5)
      (sSeq (sSet 6 (e1 sumD (eCons (e1 listD (eComp [8] (e1 rg2 (eCons (eVarB 5) (eCons (eVarB 0) (eNil)))) (gSet 8) (eTrue) (eCall m__law_sets (eCons (e2 subD (eVarB 0) (eC (.int 1))) (eCons (eVar 8) (eNil)))))) eNil)))
      (sSeq (sSet 7 (e2 ixD (e1 listD (eCons (eC (.int 1)) (eCons (e1 negD (eC (.int 1))) (eNil)))) (e2 modD (e1 intD (eCons (e2 subD (e2 addD (eVarB 5) (eVarB 1)) (eC (.int 1))) eNil)) (eC (.int 2)))))
      (sApp 4 (eCall m__law_low (eCons (e2 mulD (e2 mulD (e2 mulD (eVarB 7) (e2 subD (eVarB 0) (eVarB 1))) (eCall m__law_sets (eCons (e2 subD (eVarB 0) (eC (.int 1))) (eCons (e2 subD (eVarB 1) (eC (.int 1))) (eNil))))) (eVarB 6)) (eCons (e2 mulD (e2 mulD (eVarB 5) (eVarB 3)) (eCall m__law_sets (eCons (e2 subD (eVarB 0) (eC (.int 1))) (eCons (eVar 5) (eNil))))) (eNil))))))))
      (sFrz [4] (sRet (eVar 4)))))))
theorem sc__law_weights : FnScope ["n", "m", "word", "whole", "found", "i", "tail", "sign", "j"] ["n", "m", "word"] (defScope st__law_weights) := ⟨rfl, rfl, rfl, by decide +kernel, rfl, by decide +kernel, by decide +kernel⟩
theorem ok__law_weights {w : World} {K : PySem.W.Frag} {mg : Str → Option Value} {base : Heap} (m : M K mg) {fd : FuncData} (F : FnP K "_law_weights" st__law_weights (He.ga K "_law_weights") fd) : FnOk PP w K mg base (L2.CX PP w) 3 (He.ga K "_law_weights") fd ["n", "m", "word"] (spOf K mg 3 m__law_weights) := by
  obtain ⟨fd__law_low, F__law_low⟩ := m.fn__law_low
  have k__law_low := ok__law_low (w := w) (base := base) m F__law_low
  have b__law_low : Binds K fd__law_low ["n", "d"] [] := FunD.bindsN (ps := ["n", "d"]) F__law_low fun _ _ _ _ _ _ us hl => match us, hl with | [_, _], _ => rfl
  obtain ⟨fd__law_sets, F__law_sets⟩ := m.fn__law_sets
  have k__law_sets := ok__law_sets (w := w) (base := base) m F__law_sets
  have b__law_sets : Binds K fd__law_sets ["things", "many"] [] := FunD.bindsN (ps := ["things", "many"]) F__law_sets fun _ _ _ _ _ _ us hl => match us, hl with | [_, _], _ => rfl
  exact fnD_ok F sc__law_weights rfl rfl (by decide) fun cdv A outer s H E hr =>
   ps_seq (pq_if (pf_cmpT cm_lt (pf_varB 0) (pf_b (pf_add rfl (pf_varB 1) (pf_b (pf_int)))))
      (ps_1 (pq_ret (pf_n (pf_lst (pf_nil) (by decide) (len_nil)))))
      (ps_nil))
      (ps_seq (pq_if (pf_cmpT (cm_eq rfl (u64 hr)) (pf_varB 2) (pf_b (pf_str)))
      (ps_1 (pq_ret (pf_add rfl (pf_b (pf_n (pf_lst (pf_cons (pf_call k__law_low (hr.mono (by decide)) rfl m.gl__law_low F__law_low.kp b__law_low (takes_of rfl rfl rfl rfl) (pf_cons (pf_var 1) (pf_cons (pf_var 0) (pf_nil))) (len_cons (len_cons (len_nil)))) (pf_nil)) (by decide) (len_cons (len_nil))))) (pf_b (pf_mul (pf_b (pf_n (pf_lst (pf_cons (pf_tup (pf_cons (pf_int) (pf_cons (pf_int) (pf_nil))) (by decide) (len_cons (len_cons (len_nil)))) (pf_nil)) (by decide) (len_cons (len_nil))))) (pf_b (pf_sub (pf_b (pf_sub (pf_varB 0) (pf_varB 1))) (pf_b (pf_int)))))))))
      (ps_nil))
      (ps_seq (pq_parM (i := 3) (j := 4) rfl sc__law_weights.nd rfl rfl (by decide) rfl rfl (pf_mval (pf_sum rfl (m.fr_sum) (pf_b (pf_n (pf_lc (own := [("j", 8)]) rfl sc__law_weights.nd (pf_range2 rfl (m.fr_range) (pf_consB (pf_varB 1) (pf_consB (pf_varB 0) (pf_nilB)))) (blkOk_by (by kernel_rfl)) (fun _ _ _ _ _ => pf_gname 8 sc__law_weights.nd rfl (by first | exact Or.inl rfl | exact Or.inr rfl)) (fun _ _ _ _ _ => pf_tyes) (fun _ _ _ _ _ => pf_call k__law_sets (hr.mono (by decide)) rfl m.gl__law_sets F__law_sets.kp b__law_sets Pf.takes0 (pf_cons (pf_sub (pf_varB 0) (pf_b (pf_int))) (pf_cons (pf_var 8) (pf_nil))) (len_cons (len_cons (len_nil)))))))) (pf_mown (pf_lst (pf_nil) (by decide) (len_nil)) (pf_mnil))))
      (ps_seq (pq_for (passes_of rfl) rfl (pf_range2 rfl (m.fr_range) (pf_consB (pf_b (pf_add rfl (pf_varB 1) (pf_b (pf_int)))) (pf_consB (pf_varB 0) (pf_nilB)))) (pf_gname 5 sc__law_weights.nd rfl (by first | exact Or.inl rfl | exact Or.inr rfl))
      (ps_seq (pq_set (i := 6) sc__law_weights.nd rfl (by first | exact Or.inl rfl | exact Or.inr rfl) (pf_sum rfl (m.fr_sum) (pf_b (pf_n (pf_lc (own := [("j", 8)]) rfl sc__law_weights.nd (pf_range2 rfl (m.fr_range) (pf_consB (pf_varB 5) (pf_consB (pf_varB 0) (pf_nilB)))) (blkOk_by (by kernel_rfl)) (fun _ _ _ _ _ => pf_gname 8 sc__law_weights.nd rfl (by first | exact Or.inl rfl | exact Or.inr rfl)) (fun _ _ _ _ _ => pf_tyes) (fun _ _ _ _ _ => pf_call k__law_sets (hr.mono (by decide)) rfl m.gl__law_sets F__law_sets.kp b__law_sets Pf.takes0 (pf_cons (pf_sub (pf_varB 0) (pf_b (pf_int))) (pf_cons (pf_var 8) (pf_nil))) (len_cons (len_cons (len_nil)))))))))
      (ps_seq (pq_set (i := 7) sc__law_weights.nd rfl (by first | exact Or.inl rfl | exact Or.inr rfl) (pf_sub1 rfl (pf_b (pf_n (pf_lst (pf_cons (pf_int) (pf_cons (pf_neg (pf_b (pf_int))) (pf_nil))) (by decide) (len_cons (len_cons (len_nil)))))) (pf_b (pf_mod (pf_b (pf_int1 (m.fr_int) (pf_b (pf_sub (pf_b (pf_add rfl (pf_varB 5) (pf_varB 1))) (pf_b (pf_int)))))) (pf_b (pf_int))))))
      (ps_1 (pq_app (i := 4) rfl (by first | exact Or.inl rfl | exact Or.inr (Or.inl rfl) | exact Or.inr (Or.inr rfl)) (pf_call k__law_low (hr.mono (by decide)) rfl m.gl__law_low F__law_low.kp b__law_low (takes_of rfl rfl rfl rfl) (pf_cons (pf_mul (pf_b (pf_mul (pf_b (pf_mul (pf_varB 7) (pf_b (pf_sub (pf_varB 0) (pf_varB 1))))) (pf_b (pf_call k__law_sets (hr.mono (by decide)) rfl m.gl__law_sets F__law_sets.kp b__law_sets (takes_of rfl rfl rfl rfl) (pf_cons (pf_sub (pf_varB 0) (pf_b (pf_int))) (pf_cons (pf_sub (pf_varB 1) (pf_b (pf_int))) (pf_nil))) (len_cons (len_cons (len_nil))))))) (pf_varB 6)) (pf_cons (pf_mul (pf_b (pf_mul (pf_varB 5) (pf_varB 3))) (pf_b (pf_call k__law_sets (hr.mono (by decide)) rfl m.gl__law_sets F__law_sets.kp b__law_sets (takes_of rfl rfl rfl rfl) (pf_cons (pf_sub (pf_varB 0) (pf_b (pf_int))) (pf_cons (pf_var 5) (pf_nil))) (len_cons (len_cons (len_nil)))))) (pf_nil))) (len_cons (len_cons (len_nil)))) (fun ho ha => pe_bm PySem.F.plainAttrs_list PySem.F.slot_list_append PySem.F.type_list_append mt_append ho ha))))))
      (ps_1 (pq_frz [4] (pq_ret (pf_var 4)))))))
def m__law_back : List PyData → Res PyData := mDef 4 3 (
 sSeq (sSet 4 (e1 listD (e1 revL (e1 listD (e1 sortedN (eCons (e2 addD (eSl slT (eVarB 0) (eNone) (e1 asI (eVarB 3))) (eSl slT (eVarB 0) (e1 asI (e2 addD (eVarB 3) (eC (.int 1)))) (eNone))) eNil))))))
      (sSeq (sSet 5 (eCall m__law_weights (eCons (e1 lenD (eCons (eVarB 0) eNil)) (eCons (eVar 1) (eCons (eVar 2) (eNil))))))
      (sRet (eCall m__law_sum (eCons (e1 listD (eComp [6] (e1 rg1 (eCons (e1 lenD (eCons (eVarB 5) eNil)) (eNil))) (gSet 6) (eTrue) (eCall m__law_times (eCons (e2 ixD (eVarB 5) (eVarB 6)) (eCons (e1 tupD (eCons (e2 ixD (eVarB 4) (e2 addD (eVarB 1) (eVarB 6))) (eCons (eC (.int 1)) (eNil)))) (eNil)))))) (eNil))))))
theorem sc__law_back : FnScope ["worths", "m", "word", "k", "others", "weights", "t"] ["worths", "m", "word", "k"] (defScope st__law_back) := ⟨rfl, rfl, rfl, by decide +kernel, rfl, by decide +kernel, by decide +kernel⟩
theorem ok__law_back {w : World} {K : PySem.W.Frag} {mg : Str → Option Value} {base : Heap} (m : M K mg) {fd : FuncData} (F : FnP K "_law_back" st__law_back (He.ga K "_law_back") fd) : FnOk PP w K mg base (L2.CX PP w) 5 (He.ga K "_law_back") fd ["worths", "m", "word", "k"] (spOf K mg 4 m__law_back) := by
  obtain ⟨fd__law_weights, F__law_weights⟩ := m.fn__law_weights
  have k__law_weights := ok__law_weights (w := w) (base := base) m F__law_weights
  have b__law_weights : Binds K fd__law_weights ["n", "m", "word"] [] := FunD.bindsN (ps := ["n", "m", "word"]) F__law_weights fun _ _ _ _ _ _ us hl => match us, hl with | [_, _, _], _ => rfl
  obtain ⟨fd__law_times, F__law_times⟩ := m.fn__law_times
  have k__law_times := ok__law_times (w := w) (base := base) m F__law_times
  have b__law_times : Binds K fd__law_times ["one", "two"] [] := FunD.bindsN (ps := ["one", "two"]) F__law_times fun _ _ _ _ _ _ us hl => match us, hl with | [_, _], _ => rfl
  obtain ⟨fd__law_sum, F__law_sum⟩ := m.fn__law_sum
  have k__law_sum := ok__law_sum (w := w) (base := base) m F__law_sum
  have b__law_sum : Binds K fd__law_sum ["rows"] [] := FunD.bindsN (ps := ["rows"]) F__law_sum fun _ _ _ _ _ _ us hl => match us, hl with | [_], _ => rfl
  exact fnD_ok F sc__law_back rfl rfl (by decide) fun cdv A outer s H E hr =>
   ps_seq (pq_set (i := 4) sc__law_back.nd rfl (by first | exact Or.inl rfl | exact Or.inr rfl) (pf_n (pf_revN (pf_b (pf_n (pf_sorted (m.fr_sorted) (pf_b (pf_add rfl (pf_b (pf_slF rfl (pf_varB 0) (pf_pnone) (pf_psome (pf_varB 3)))) (pf_b (pf_slF rfl (pf_varB 0) (pf_psome (pf_b (pf_add rfl (pf_varB 3) (pf_b (pf_int))))) (pf_pnone)))))))))))
      (ps_seq (pq_set (i := 5) sc__law_back.nd rfl (by first | exact Or.inl rfl | exact Or.inr rfl) (pf_call k__law_weights (hr.mono (by decide)) rfl m.gl__law_weights F__law_weights.kp b__law_weights (takes_of rfl rfl rfl rfl) (pf_cons (pf_len (m.fr_len) (pf_varB 0)) (pf_cons (pf_var 1) (pf_cons (pf_var 2) (pf_nil)))) (len_cons (len_cons (len_cons (len_nil))))))
      (ps_1 (pq_ret (pf_call k__law_sum (hr.mono (by decide)) rfl m.gl__law_sum F__law_sum.kp b__law_sum (takes_of rfl rfl rfl rfl) (pf_cons (pf_n (pf_lc (own := [("t", 6)]) rfl sc__law_back.nd (pf_range1 rfl (m.fr_range) (pf_consB (pf_b (pf_len (m.fr_len) (pf_varB 5))) (pf_nilB))) (blkOk_by (by kernel_rfl)) (fun _ _ _ _ _ => pf_gname 6 sc__law_back.nd rfl (by first | exact Or.inl rfl | exact Or.inr rfl)) (fun _ _ _ _ _ => pf_tyes) (fun _ _ _ _ _ => pf_call k__law_times (hr.mono (by decide)) rfl m.gl__law_times F__law_times.kp b__law_times Pf.takes0 (pf_cons (pf_sub1 rfl (pf_varB 5) (pf_varB 6)) (pf_cons (pf_tup (pf_cons (pf_sub1 rfl (pf_varB 4) (pf_b (pf_add rfl (pf_varB 1) (pf_varB 6)))) (pf_cons (pf_int) (pf_nil))) (by decide) (len_cons (len_cons (len_nil)))) (pf_nil))) (len_cons (len_cons (len_nil)))))) (pf_nil)) (len_cons (len_nil))))))
def m__law_price : List PyData → Res PyData := mDef 2 0 (
 sRet (e2 ixD (e2 addD (e1 listD (e1 revL (e1 listD (e1 sortedN (eCons (eVarB 0) eNil))))) (e2 mulD (e1 listD (eCons (eC (.int 0)) (eNil))) (eC (.int 9)))) (eVarB 1)))
theorem sc__law_price : FnScope ["worths", "m"] ["worths", "m"] (defScope st__law_price) := ⟨rfl, rfl, rfl, by decide +kernel, rfl, by decide +kernel, by decide +kernel⟩
theorem ok__law_price {w : World} {K : PySem.W.Frag} {mg : Str → Option Value} {base : Heap} (m : M K mg) {fd : FuncData} (F : FnP K "_law_price" st__law_price (He.ga K "_law_price") fd) : FnOk PP w K mg base (L2.CX PP w) 1 (He.ga K "_law_price") fd ["worths", "m"] (spOf K mg 2 m__law_price) := by
  exact fnD_ok F sc__law_price rfl rfl (by decide) fun cdv A outer s H E hr =>
   ps_1 (pq_ret (pf_sub1 rfl (pf_b (pf_add rfl (pf_b (pf_n (pf_revN (pf_b (pf_n (pf_sorted (m.fr_sorted) (pf_varB 0))))))) (pf_b (pf_mul (pf_b (pf_n (pf_lst (pf_cons (pf_int) (pf_nil)) (by decide) (len_cons (len_nil))))) (pf_b (pf_int)))))) (pf_varB 1)))
def m__law_gain : List PyData → Res PyData := mDef 5 3 (
 sSeq (sSet 5 (e1 listD (eComp [7] (e1 rg1 (eCons (e1 lenD (eCons (eVarB 1) eNil)) (eNil))) (gSet 7) (eOr (eTb (e2 gtD (e2 ixD (eVarB 1) (eVarB 7)) (e2 ixD (eVarB 1) (eVarB 4)))) (eAnd (eTb (e2 eqD (e2 ixD (eVarB 1) (eVarB 7)) (e2 ixD (eVarB 1) (eVarB 4)))) (eTb (e2 ltD (eVarB 7) (eVarB 4))))) (eVar 7))))
      (sSeq (sSet 6 (e2 mulD (e2 subD (e2 ixD (eVarB 0) (eVarB 4)) (eCall m__law_price (eCons (eVar 1) (eCons (eVar 2) (eNil))))) (e1 intD (eCons (e2 ltD (e1 lenD (eCons (eVarB 5) eNil)) (eVarB 2)) eNil))))
      (sRet (eCall m__law_add (eCons (eCall m__law_back (eCons (eVar 1) (eCons (eVar 2) (eCons (eVar 3) (eCons (eVar 4) (eNil)))))) (eCons (e1 tupD (eCons (eVar 6) (eCons (eC (.int 1)) (eNil)))) (eNil)))))))
theorem sc__law_gain : FnScope ["worths", "told", "m", "word", "k", "ahead", "win", "t"] ["worths", "told", "m", "word", "k"] (defScope st__law_gain) := ⟨rfl, rfl, rfl, by decide +kernel, rfl, by decide +kernel, by decide +kernel⟩
theorem ok__law_gain {w : World} {K : PySem.W.Frag} {mg : Str → Option Value} {base : Heap} (m : M K mg) {fd : FuncData} (F : FnP K "_law_gain" st__law_gain (He.ga K "_law_gain") fd) : FnOk PP w K mg base (L2.CX PP w) 6 (He.ga K "_law_gain") fd ["worths", "told", "m", "word", "k"] (spOf K mg 5 m__law_gain) := by
  obtain ⟨fd__law_price, F__law_price⟩ := m.fn__law_price
  have k__law_price := ok__law_price (w := w) (base := base) m F__law_price
  have b__law_price : Binds K fd__law_price ["worths", "m"] [] := FunD.bindsN (ps := ["worths", "m"]) F__law_price fun _ _ _ _ _ _ us hl => match us, hl with | [_, _], _ => rfl
  obtain ⟨fd__law_back, F__law_back⟩ := m.fn__law_back
  have k__law_back := ok__law_back (w := w) (base := base) m F__law_back
  have b__law_back : Binds K fd__law_back ["worths", "m", "word", "k"] [] := FunD.bindsN (ps := ["worths", "m", "word", "k"]) F__law_back fun _ _ _ _ _ _ us hl => match us, hl with | [_, _, _, _], _ => rfl
  obtain ⟨fd__law_add, F__law_add⟩ := m.fn__law_add
  have k__law_add := ok__law_add (w := w) (base := base) m F__law_add
  have b__law_add : Binds K fd__law_add ["one", "two"] [] := FunD.bindsN (ps := ["one", "two"]) F__law_add fun _ _ _ _ _ _ us hl => match us, hl with | [_, _], _ => rfl
  exact fnD_ok F sc__law_gain rfl rfl (by decide) fun cdv A outer s H E hr =>
   ps_seq (pq_setLc (own := false) (i := 5) (ow := [("t", 7)]) rfl sc__law_gain.nd rfl rfl (sw_true rfl rfl rfl (by kernel_rfl)) (pf_range1 rfl (m.fr_range) (pf_consB (pf_b (pf_len (m.fr_len) (pf_varB 1))) (pf_nilB))) (blkOk_by (by kernel_rfl)) (fun _ _ _ _ _ => pf_gname 7 sc__law_gain.nd rfl (by first | exact Or.inl rfl | exact Or.inr rfl)) (fun _ _ _ _ _ => pf_tone (PW.pt (pf_or (pf_cmpT cm_gt (pf_b (pf_sub1 rfl (pf_varB 1) (pf_varB 7))) (pf_b (pf_sub1 rfl (pf_varB 1) (pf_varB 4)))) (pf_or1 (PW.pt (pf_and (pf_cmpT (cm_eq rfl (u64 hr)) (pf_b (pf_sub1 rfl (pf_varB 1) (pf_varB 7))) (pf_b (pf_sub1 rfl (pf_varB 1) (pf_varB 4)))) (pf_and1 (pf_cmpT cm_lt (pf_varB 7) (pf_varB 4))))))))) (fun _ _ _ _ _ => pf_var 7))
      (ps_seq (pq_set (i := 6) sc__law_gain.nd rfl (by first | exact Or.inl rfl | exact Or.inr rfl) (pf_mul (pf_b (pf_sub (pf_b (pf_sub1 rfl (pf_varB 0) (pf_varB 4))) (pf_b (pf_call k__law_price (hr.mono (by decide)) rfl m.gl__law_price F__law_price.kp b__law_price (takes_of rfl rfl rfl rfl) (pf_cons (pf_var 1) (pf_cons (pf_var 2) (pf_nil))) (len_cons (len_cons (len_nil))))))) (pf_b (pf_int1 (m.fr_int) (pf_b (pf_cmpV cm_lt (pf_b (pf_len (m.fr_len) (pf_varB 5))) (pf_varB 2)))))))
      (ps_1 (pq_ret (pf_call k__law_add (hr.mono (by decide)) rfl m.gl__law_add F__law_add.kp b__law_add (takes_of rfl rfl rfl rfl) (pf_cons (pf_call k__law_back (hr.mono (by decide)) rfl m.gl__law_back F__law_back.kp b__law_back (takes_of rfl rfl rfl rfl) (pf_cons (pf_var 1) (pf_cons (pf_var 2) (pf_cons (pf_var 3) (pf_cons (pf_var 4) (pf_nil))))) (len_cons (len_cons (len_cons (len_cons (len_nil)))))) (pf_cons (pf_tup (pf_cons (pf_var 6) (pf_cons (pf_int) (pf_nil))) (by decide) (len_cons (len_cons (len_nil)))) (pf_nil))) (len_cons (len_cons (len_nil)))))))
def m__law_word : List PyData → Res PyData := mDef 6 1 (
 sSeq (sTryC ["BadBidder", "BadBook", "BadPieces", "BadWord", "BadWorths"] (sIf (eTb (e2 eqD (eVarB 0) (eC (.int 0))))
      (sExpr (eCall m_given_back (eCons (eVar 1) (eCons (eVar 2) (eCons (eVar 3) (eNil))))))
      (sIf (eTb (e2 eqD (eVarB 0) (eC (.int 1))))
      (sExpr (eCall m_gain_with (eCons (eVar 1) (eCons (eVar 2) (eCons (eVar 3) (eCons (eVar 4) (eCons (eVar 5) (eNil))))))))
      (sExpr (eCall m_weights_of (eCons (eVar 1) (eCons (eVar 2) (eCons (eVar 3) (eNil)))))))) [("BadBook", fun k => .tuple [.str "book", .int k]), ("BadWorths", fun k => .tuple [.str "worths", .int k]), ("BadPieces", fun k => .tuple [.str "pieces", .int k]), ("BadWord", fun k => .tuple [.str "word", .int k]), ("BadBidder", fun k => .tuple [.str "bidder", .int k])])
      (sRet (eC .none)))
theorem sc__law_word : FnScope ["which", "worths", "pieces", "word", "k", "lie", "e"] ["which", "worths", "pieces", "word", "k", "lie"] (defScope st__law_word) := ⟨rfl, rfl, rfl, by decide +kernel, rfl, by decide +kernel, by decide +kernel⟩
theorem tr__law_word {K : PySem.W.Frag} {mg : Str → Option Value} (m : M K mg) {l : List (Str × (Int → PyData))} (hl : l.map (·.1) = (["BadBook", "BadWorths", "BadPieces", "BadWord", "BadBidder"] : List Str)) : ∀ c ∈ (["BadBidder", "BadBook", "BadPieces", "BadWord", "BadWorths"] : List Str), ∀ C, mg c = some (.ref C) → XfC K C ∧ PySem.W.findIn K (.ref C) "at" = some none ∧ ∀ x D, (∃ h, (x, h) ∈ l) → mg x = some (.ref D) → PySem.W.exmOne K (.ref C) (.ref D) = some (decide (c = x)) := by
  intro c hc C hC
  have hx : ∀ x h, (x, h) ∈ l → x ∈ (["BadBook", "BadWorths", "BadPieces", "BadWord", "BadBidder"] : List Str) := fun x h hm => by rw [← hl]; exact List.mem_map.mpr ⟨_, hm, rfl⟩
  simp only [List.mem_cons, List.not_mem_nil, or_false] at hc hx
  rcases hc with rfl | rfl | rfl | rfl | rfl
  · rw [m.gl_BadBidder] at hC
    cases hC
    refine ⟨m.xf_BadBidder, m.ex_BadBidder.noat, fun x D ⟨h, hm⟩ hD => ?_⟩
    rcases hx x h hm with rfl | rfl | rfl | rfl | rfl
    · rw [m.gl_BadBook] at hD
      cases hD
      have := He.exm_ok (m.c.p.b.2.2 ("BadBidder", "BadBook", false) (by decide))
      exact this.trans (by decide)
    · rw [m.gl_BadWorths] at hD
      cases hD
      have := He.exm_ok (m.c.p.b.2.2 ("BadBidder", "BadWorths", false) (by decide))
      exact this.trans (by decide)
    · rw [m.gl_BadPieces] at hD
      cases hD
      have := He.exm_ok (m.c.p.b.2.2 ("BadBidder", "BadPieces", false) (by decide))
      exact this.trans (by decide)
    · rw [m.gl_BadWord] at hD
      cases hD
      have := He.exm_ok (m.c.p.b.2.2 ("BadBidder", "BadWord", false) (by decide))
      exact this.trans (by decide)
    · rw [m.gl_BadBidder] at hD
      cases hD
      have := He.exm_ok (m.c.p.b.2.2 ("BadBidder", "BadBidder", true) (by decide))
      exact this.trans (by decide)
  · rw [m.gl_BadBook] at hC
    cases hC
    refine ⟨m.xf_BadBook, m.ex_BadBook.noat, fun x D ⟨h, hm⟩ hD => ?_⟩
    rcases hx x h hm with rfl | rfl | rfl | rfl | rfl
    · rw [m.gl_BadBook] at hD
      cases hD
      have := He.exm_ok (m.c.p.b.2.2 ("BadBook", "BadBook", true) (by decide))
      exact this.trans (by decide)
    · rw [m.gl_BadWorths] at hD
      cases hD
      have := He.exm_ok (m.c.p.b.2.2 ("BadBook", "BadWorths", false) (by decide))
      exact this.trans (by decide)
    · rw [m.gl_BadPieces] at hD
      cases hD
      have := He.exm_ok (m.c.p.b.2.2 ("BadBook", "BadPieces", false) (by decide))
      exact this.trans (by decide)
    · rw [m.gl_BadWord] at hD
      cases hD
      have := He.exm_ok (m.c.p.b.2.2 ("BadBook", "BadWord", false) (by decide))
      exact this.trans (by decide)
    · rw [m.gl_BadBidder] at hD
      cases hD
      have := He.exm_ok (m.c.p.b.2.2 ("BadBook", "BadBidder", false) (by decide))
      exact this.trans (by decide)
  · rw [m.gl_BadPieces] at hC
    cases hC
    refine ⟨m.xf_BadPieces, m.ex_BadPieces.noat, fun x D ⟨h, hm⟩ hD => ?_⟩
    rcases hx x h hm with rfl | rfl | rfl | rfl | rfl
    · rw [m.gl_BadBook] at hD
      cases hD
      have := He.exm_ok (m.c.p.b.2.2 ("BadPieces", "BadBook", false) (by decide))
      exact this.trans (by decide)
    · rw [m.gl_BadWorths] at hD
      cases hD
      have := He.exm_ok (m.c.p.b.2.2 ("BadPieces", "BadWorths", false) (by decide))
      exact this.trans (by decide)
    · rw [m.gl_BadPieces] at hD
      cases hD
      have := He.exm_ok (m.c.p.b.2.2 ("BadPieces", "BadPieces", true) (by decide))
      exact this.trans (by decide)
    · rw [m.gl_BadWord] at hD
      cases hD
      have := He.exm_ok (m.c.p.b.2.2 ("BadPieces", "BadWord", false) (by decide))
      exact this.trans (by decide)
    · rw [m.gl_BadBidder] at hD
      cases hD
      have := He.exm_ok (m.c.p.b.2.2 ("BadPieces", "BadBidder", false) (by decide))
      exact this.trans (by decide)
  · rw [m.gl_BadWord] at hC
    cases hC
    refine ⟨m.xf_BadWord, m.ex_BadWord.noat, fun x D ⟨h, hm⟩ hD => ?_⟩
    rcases hx x h hm with rfl | rfl | rfl | rfl | rfl
    · rw [m.gl_BadBook] at hD
      cases hD
      have := He.exm_ok (m.c.p.b.2.2 ("BadWord", "BadBook", false) (by decide))
      exact this.trans (by decide)
    · rw [m.gl_BadWorths] at hD
      cases hD
      have := He.exm_ok (m.c.p.b.2.2 ("BadWord", "BadWorths", false) (by decide))
      exact this.trans (by decide)
    · rw [m.gl_BadPieces] at hD
      cases hD
      have := He.exm_ok (m.c.p.b.2.2 ("BadWord", "BadPieces", false) (by decide))
      exact this.trans (by decide)
    · rw [m.gl_BadWord] at hD
      cases hD
      have := He.exm_ok (m.c.p.b.2.2 ("BadWord", "BadWord", true) (by decide))
      exact this.trans (by decide)
    · rw [m.gl_BadBidder] at hD
      cases hD
      have := He.exm_ok (m.c.p.b.2.2 ("BadWord", "BadBidder", false) (by decide))
      exact this.trans (by decide)
  · rw [m.gl_BadWorths] at hC
    cases hC
    refine ⟨m.xf_BadWorths, m.ex_BadWorths.noat, fun x D ⟨h, hm⟩ hD => ?_⟩
    rcases hx x h hm with rfl | rfl | rfl | rfl | rfl
    · rw [m.gl_BadBook] at hD
      cases hD
      have := He.exm_ok (m.c.p.b.2.2 ("BadWorths", "BadBook", false) (by decide))
      exact this.trans (by decide)
    · rw [m.gl_BadWorths] at hD
      cases hD
      have := He.exm_ok (m.c.p.b.2.2 ("BadWorths", "BadWorths", true) (by decide))
      exact this.trans (by decide)
    · rw [m.gl_BadPieces] at hD
      cases hD
      have := He.exm_ok (m.c.p.b.2.2 ("BadWorths", "BadPieces", false) (by decide))
      exact this.trans (by decide)
    · rw [m.gl_BadWord] at hD
      cases hD
      have := He.exm_ok (m.c.p.b.2.2 ("BadWorths", "BadWord", false) (by decide))
      exact this.trans (by decide)
    · rw [m.gl_BadBidder] at hD
      cases hD
      have := He.exm_ok (m.c.p.b.2.2 ("BadWorths", "BadBidder", false) (by decide))
      exact this.trans (by decide)
theorem ok__law_word {w : World} {K : PySem.W.Frag} {mg : Str → Option Value} {base : Heap} (m : M K mg) {fd : FuncData} (F : FnP K "_law_word" st__law_word (He.ga K "_law_word") fd) : FnOk PP w K mg base (L2.CX PP w) 7 (He.ga K "_law_word") fd ["which", "worths", "pieces", "word", "k", "lie"] (spOf K mg 6 m__law_word) := by
  obtain ⟨fd_given_back, F_given_back⟩ := m.fn_given_back
  have k_given_back := ok_given_back (w := w) (base := base) m F_given_back
  have b_given_back : Binds K fd_given_back ["worths", "pieces", "word"] [] := FunD.bindsN (ps := ["worths", "pieces", "word"]) F_given_back fun _ _ _ _ _ _ us hl => match us, hl with | [_, _, _], _ => rfl
  obtain ⟨fd_gain_with, F_gain_with⟩ := m.fn_gain_with
  have k_gain_with := ok_gain_with (w := w) (base := base) m F_gain_with
  have b_gain_with : Binds K fd_gain_with ["worths", "pieces", "word", "k", "lie"] [] := FunD.bindsN (ps := ["worths", "pieces", "word", "k", "lie"]) F_gain_with fun _ _ _ _ _ _ us hl => match us, hl with | [_, _, _, _, _], _ => rfl
  obtain ⟨fd_weights_of, F_weights_of⟩ := m.fn_weights_of
  have k_weights_of := ok_weights_of (w := w) (base := base) m F_weights_of
  have b_weights_of : Binds K fd_weights_of ["many", "pieces", "word"] [] := FunD.bindsN (ps := ["many", "pieces", "word"]) F_weights_of fun _ _ _ _ _ _ us hl => match us, hl with | [_, _, _], _ => rfl
  exact fnD_ok F sc__law_word rfl rfl (by decide) fun cdv A outer s H E hr =>
   ps_seq (pq_try (i := 6) (l := [("BadBook", fun k => .tuple [.str "book", .int k]), ("BadWorths", fun k => .tuple [.str "worths", .int k]), ("BadPieces", fun k => .tuple [.str "pieces", .int k]), ("BadWord", fun k => .tuple [.str "word", .int k]), ("BadBidder", fun k => .tuple [.str "bidder", .int k])]) (cs := ["BadBidder", "BadBook", "BadPieces", "BadWord", "BadWorths"]) rfl rfl sc__law_word.nd rfl rfl (takes_of rfl rfl rfl rfl) (tr__law_word m rfl) (fun W pn xe tk po => ps_1 (pq_if (pf_cmpT (cm_eq rfl (u64 hr)) (pf_varB 0) (pf_b (pf_int)))
      (ps_1 (pq_expr (pf_b (pf_call k_given_back (hr.mono (by decide)) rfl m.gl_given_back F_given_back.kp b_given_back tk (pf_cons (pf_var 1) (pf_cons (pf_var 2) (pf_cons (pf_var 3) (pf_nil)))) (len_cons (len_cons (len_cons (len_nil))))))))
      (ps_1 (pq_if (pf_cmpT (cm_eq rfl (u64 hr)) (pf_varB 0) (pf_b (pf_int)))
      (ps_1 (pq_expr (pf_b (pf_call k_gain_with (hr.mono (by decide)) rfl m.gl_gain_with F_gain_with.kp b_gain_with tk (pf_cons (pf_var 1) (pf_cons (pf_var 2) (pf_cons (pf_var 3) (pf_cons (pf_var 4) (pf_cons (pf_var 5) (pf_nil)))))) (len_cons (len_cons (len_cons (len_cons (len_cons (len_nil))))))))))
      (ps_1 (pq_expr (pf_b (pf_call k_weights_of (hr.mono (by decide)) rfl m.gl_weights_of F_weights_of.kp b_weights_of tk (pf_cons (pf_var 1) (pf_cons (pf_var 2) (pf_cons (pf_var 3) (pf_nil)))) (len_cons (len_cons (len_cons (len_nil))))))))))))
      (.cons rfl m.gl_BadBook (suite_pair (show (6 : Nat) < 7 by decide) rfl (by exact Or.inl rfl)) (.cons rfl m.gl_BadWorths (suite_pair (show (6 : Nat) < 7 by decide) rfl (by exact Or.inl rfl)) (.cons rfl m.gl_BadPieces (suite_pair (show (6 : Nat) < 7 by decide) rfl (by exact Or.inl rfl)) (.cons rfl m.gl_BadWord (suite_pair (show (6 : Nat) < 7 by decide) rfl (by exact Or.inl rfl)) (.cons rfl m.gl_BadBidder (suite_pair (show (6 : Nat) < 7 by decide) rfl (by exact Or.inl rfl)) (.nil)))))))
      (ps_1 (pq_ret (pf_non)))
def m_law : List PyData → Res PyData := mDef 1 28 (
 sSeq (sSet 1 (eCall m__law_draws (eCons (eVar 0) (eNil))))
      (sSeq (sFor (e1 rg1 (eCons (eC (.int 3)) (eNil))) (gSet 2)
      (sSeq (sSet 3 (e2 addD (eC (.int 10)) (e2 mulD (eC (.int 40)) (eVarB 2))))
      (sSeq (sAsg (gUnp (gsCons (gSet 4) (gsCons (gSet 5) (gsNil)))) (e1 tupD (eCons (e2 addD (eC (.int 1)) (eCall m__law_mix (eCons (eVar 1) (eCons (eVar 3) (eCons (eC (.int 10)) (eNil)))))) (eCons (e2 addD (eC (.int 1)) (eCall m__law_mix (eCons (eVar 1) (eCons (e2 addD (eVarB 3) (eC (.int 1))) (eCons (e2 ixD (e1 listD (eCons (eC (.int 8)) (eCons (eC (.int 3)) (eNil)))) (eCall m__law_mix (eCons (eVar 1) (eCons (e2 addD (eVarB 3) (eC (.int 2))) (eCons (eC (.int 2)) (eNil)))))) (eNil)))))) (eNil)))))
      (sSeq (sAsg (gUnp (gsCons (gSet 6) (gsCons (gSet 7) (gsNil)))) (e1 tupD (eCons (eCall m__law_mix (eCons (eVar 1) (eCons (e2 addD (eVarB 3) (eC (.int 3))) (eCons (eC (.int 1000)) (eNil))))) (eCons (eCall m__law_mix (eCons (eVar 1) (eCons (e2 addD (eVarB 3) (eC (.int 4))) (eCons (eC (.int 100000)) (eNil))))) (eNil)))))
      (sSeq (sSet 8 (eCall m__law_mix (eCons (eVar 1) (eCons (e2 addD (eVarB 3) (eC (.int 5))) (eCons (eC (.int 4)) (eNil))))))
      (sSeq (sSet 9 (e1 listD (eComp [18] (e1 rg1 (eCons (eVarB 4) (eNil))) (gSet 18) (eTrue) (e2 ixD (e1 listD (eCons (eCall m__law_mix (eCons (eVar 1) (eCons (e2 addD (e2 addD (eVarB 3) (eC (.int 6))) (eVarB 18)) (eCons (eC (.int 1000001)) (eNil))))) (eCons (eVar 7) (eCons (e2 addD (eVarB 7) (e2 mulD (eVarB 6) (e2 subD (eVarB 4) (eVarB 18)))) (eCons (eCall m__law_mix (eCons (eVar 1) (eCons (e2 addD (e2 addD (eVarB 3) (eC (.int 6))) (eVarB 18)) (eCons (eC (.int 5)) (eNil))))) (eNil)))))) (eVarB 8)))))
      (sSeq (sSet 10 (e2 mulD (eCall m__law_price (eCons (eVar 9) (eCons (eVar 5) (eNil)))) (e1 min2D (eCons (eVarB 4) (eCons (eVarB 5) eNil)))))
      (sSeq (sIf (eTb (e2 neD (eCall m_income_of (eCons (e1 listD (e1 listN (eCons (eVarB 9) eNil))) (eCons (eVar 5) (eNil)))) (eVarB 10)))
      (sRet (eC (.bool false)))
      (sPass))
      (sFor (e1 itL (e1 listD (eCons (eC (.str "even")) (eCons (eC (.str "most")) (eNil))))) (gSet 11)
      (sSeq (sParM [12, 13] (mVal (eCall m__law_weights (eCons (eVar 4) (eCons (eVar 5) (eCons (eVar 11) (eNil))))) (mVal (e1 listD (eComp [18] (e1 rg1 (eCons (eVarB 4) (eNil))) (gSet 18) (eTrue) (eCall m__law_back (eCons (eVar 9) (eCons (eVar 5) (eCons (eVar 11) (eCons (eVar 18) (eNil)))))))) (mNil))))
      (sSeq (sSet 14 (eCall m__law_sum (eCons (eVar 13) (eNil))))
      (sSeq (sSet 15 (eCall m__law_add (eCons (e1 tupD (eCons (eVar 10) (eCons (eC (.int 1)) (eNil)))) (eCons (e1 tupD (eCons (e1 negD (e2 ixD (eVarB 14) (eC (.int 0)))) (eCons (e2 ixD (eVarB 14) (eC (.int 1))) (eNil)))) (eNil)))))
      (sSeq (sIf (eOr (eTb (e2 neD (eCall m_weights_of (eCons (eVar 4) (eCons (eVar 5) (eCons (eVar 11) (eNil))))) (eVarB 12))) (eOr (eTb (e2 neD (eCall m_given_back (eCons (e1 listD (e1 listN (eCons (eVarB 9) eNil))) (eCons (eVar 5) (eCons (eVar 11) (eNil))))) (eVarB 13))) (eTb (e2 neD (eCall m_left_over (eCons (e1 listD (e1 listN (eCons (eVarB 9) eNil))) (eCons (eVar 5) (eCons (eVar 11) (eNil))))) (eVarB 15)))))
      (sRet (eC (.bool false)))
      (sPass))
      (sSeq (sIf (eOr (eTb (e2 ltD (e2 ixD (eVarB 15) (eC (.int 0))) (eC (.int 0)))) (eTb (e2 ltD (e1 minD (eCons (e1 listD (eComp [25] (e1 itL (eVarB 13)) (gSet 25) (eTrue) (e2 ixD (eVarB 25) (eC (.int 0))))) eNil)) (eC (.int 0)))))
      (sRet (eC (.bool false)))
      (sPass))
      (sSeq (sIf (eAnd (eTb (e2 eqD (eVarB 11) (eC (.str "even")))) (eTb (e2 geD (eVarB 4) (e2 addD (eVarB 5) (eC (.int 2))))))
      (sSeq (sSet 16 (e1 listD (e1 revL (e1 listD (e1 sortedN (eCons (eVarB 9) eNil))))))
      (sIf (eTb (e2 neD (eVarB 15) (eCall m__law_low (eCons (e2 mulD (e2 mulD (eVarB 5) (e2 addD (eVarB 5) (eC (.int 1)))) (e2 subD (e2 ixD (eVarB 16) (eVarB 5)) (e2 ixD (eVarB 16) (e2 addD (eVarB 5) (eC (.int 1)))))) (eCons (eVar 4) (eNil))))))
      (sRet (eC (.bool false)))
      (sPass)))
      (sPass))
      (sSeq (sSet 17 (eCall m__law_low (eCons (eCall m__law_sets (eCons (e2 subD (eVarB 4) (eC (.int 1))) (eCons (eVar 5) (eNil)))) (eCons (e1 max2D (eCons (eC (.int 1)) (eCons (e1 sumD (eCons (e1 listD (eComp [26] (e1 rg2 (eCons (eVarB 5) (eCons (eVarB 4) (eNil)))) (gSet 26) (eTrue) (eCall m__law_sets (eCons (e2 subD (eVarB 4) (eC (.int 1))) (eCons (eVar 26) (eNil)))))) eNil)) eNil))) (eNil)))))
      (sSeq (sIf (eAnd (eTb (e2 eqD (eVarB 11) (eC (.str "most")))) (eAnd (eTb (e2 geD (eVarB 4) (e2 addD (eVarB 5) (eC (.int 2))))) (eTb (e2 gtD (e2 mulD (e2 ixD (eVarB 15) (eC (.int 0))) (e2 ixD (eVarB 17) (eC (.int 1)))) (e2 mulD (e2 mulD (e2 ixD (eVarB 17) (eC (.int 0))) (eVarB 10)) (e2 ixD (eVarB 15) (eC (.int 1))))))))
      (sRet (eC (.bool false)))
      (sPass))
      (sSeq (sIf (eAnd (eTb (e2 ltD (eVarB 4) (e2 addD (eVarB 5) (eC (.int 2))))) (eOr (eTb (e2 neD (eVarB 12) (e1 listD (eNil)))) (eTb (e2 neD (eVarB 14) (e1 tupD (eCons (eC (.int 0)) (eCons (eC (.int 1)) (eNil))))))))
      (sRet (eC (.bool false)))
      (sPass))
      (sFor (e1 rg1 (eCons (eVarB 4) (eNil))) (gSet 18)
      (sSeq (sSet 19 (e2 ixD (e1 listD (eCons (eC (.int 0)) (eCons (eC (.int 1000000)) (eCons (eCall m__law_mix (eCons (eVar 1) (eCons (e2 addD (e2 addD (eVarB 3) (eC (.int 20))) (eVarB 18)) (eCons (eC (.int 1000001)) (eNil))))) (eCons (eCall m__law_price (eCons (eVar 9) (eCons (eVar 5) (eNil)))) (eNil)))))) (eCall m__law_mix (eCons (eVar 1) (eCons (e2 addD (e2 addD (eVarB 3) (eC (.int 30))) (eVarB 18)) (eCons (eC (.int 4)) (eNil)))))))
      (sSeq (sSet 20 (e2 addD (e2 addD (eSl slT (eVarB 9) (eNone) (e1 asI (eVarB 18))) (e1 listD (eCons (eVar 19) (eNil)))) (eSl slT (eVarB 9) (e1 asI (e2 addD (eVarB 18) (eC (.int 1)))) (eNone))))
      (sSeq (sParM [21, 22] (mVal (eCall m__law_gain (eCons (eVar 9) (eCons (eVar 9) (eCons (eVar 5) (eCons (eVar 11) (eCons (eVar 18) (eNil))))))) (mVal (eCall m__law_gain (eCons (eVar 9) (eCons (eVar 20) (eCons (eVar 5) (eCons (eVar 11) (eCons (eVar 18) (eNil))))))) (mNil))))
      (sIf (eOr (eTb (e2 neD (eCall m_gain_with (eCons (e1 listD (e1 listN (eCons (eVarB 9) eNil))) (eCons (eVar 5) (eCons (eVar 11) (eCons (eVar 18) (eCons (eVar 19) (eNil))))))) (eVarB 22))) (eOr (eTb (e2 neD (eCall m_gain_with (eCons (e1 listD (e1 listN (eCons (eVarB 9) eNil))) (eCons (eVar 5) (eCons (eVar 11) (eCons (eVar 18) (eCons (e2 ixD (eVarB 9) (eVarB 18)) (eNil))))))) (eVarB 21))) (eTb (e2 gtD (e2 mulD (e2 ixD (eVarB 22) (eC (.int 0))) (e2 ixD (eVarB 21) (eC (.int 1)))) (e2 mulD (e2 ixD (eVarB 21) (eC (.int 0))) (e2 ixD (eVarB 22) (eC (.int 1))))))))
      (sRet (eC (.bool false)))
      (sPass))))))))))))))))))))))))
      (sSeq (sSet 23 (e1 listD (eCons (eCall m__law_word (eCons (eC (.int 0)) (eCons (e1 listD (eNil)) (eCons (eC (.int 9)) (eCons (eC (.str "x")) (eCons (eC (.int 0)) (eCons (eC (.int 0)) (eNil)))))))) (eCons (eCall m__law_word (eCons (eC (.int 0)) (eCons (e2 mulD (e1 listD (eCons (eC (.int 1)) (eNil))) (eC (.int 11))) (eCons (eC (.int 9)) (eCons (eC (.str "x")) (eCons (eC (.int 0)) (eCons (eC (.int 0)) (eNil)))))))) (eCons (eCall m__law_word (eCons (eC (.int 0)) (eCons (e1 listD (eCons (eC (.int 1)) (eCons (e1 negD (eC (.int 1))) (eNil)))) (eCons (eC (.int 9)) (eCons (eC (.str "x")) (eCons (eC (.int 0)) (eCons (eC (.int 0)) (eNil)))))))) (eNil))))))
      (sSeq (sSet 23 (e2 addD (e2 addD (eVarB 23) (e1 listD (eComp [27] (e1 itL (e1 listD (eCons (eC (.int 9)) (eCons (eC (.int 0)) (eCons (eC (.int 1)) (eNil)))))) (gSet 27) (eTrue) (eCall m__law_word (eCons (eC (.int 0)) (eCons (e1 listD (eCons (eC (.int 1)) (eCons (eC (.int 2)) (eNil)))) (eCons (eVar 27) (eCons (eC (.str "x")) (eCons (eC (.int 0)) (eCons (eC (.int 0)) (eNil))))))))))) (e1 listD (eCons (eCall m__law_word (eCons (eC (.int 1)) (eCons (e1 listD (eCons (eC (.int 1)) (eCons (eC (.int 2)) (eNil)))) (eCons (eC (.int 1)) (eCons (eC (.str "x")) (eCons (eC (.int 2)) (eCons (e1 negD (eC (.int 1))) (eNil)))))))) (eNil)))))
      (sSeq (sSet 23 (e2 addD (eVarB 23) (e1 listD (eCons (eCall m__law_word (eCons (eC (.int 1)) (eCons (e1 listD (eCons (eC (.int 1)) (eCons (eC (.int 2)) (eNil)))) (eCons (eC (.int 1)) (eCons (eC (.str "most")) (eCons (eC (.int 2)) (eCons (e1 negD (eC (.int 1))) (eNil)))))))) (eCons (eCall m__law_word (eCons (eC (.int 1)) (eCons (e1 listD (eCons (eC (.int 1)) (eCons (eC (.int 2)) (eNil)))) (eCons (eC (.int 1)) (eCons (eC (.str "even")) (eCons (eC (.int 1)) (eCons (e1 negD (eC (.int 1))) (eNil)))))))) (eNil))))))
      (sSeq (sSet 23 (e2 addD (eVarB 23) (e1 listD (eComp [28, 27] (e1 itL (e1 listD (eCons (e1 tupD (eCons (eC (.int 0)) (eCons (eC (.int 9)) (eNil)))) (eCons (e1 tupD (eCons (eC (.int 11)) (eCons (eC (.int 9)) (eNil)))) (eCons (e1 tupD (eCons (eC (.int 5)) (eCons (eC (.int 9)) (eNil)))) (eCons (e1 tupD (eCons (eC (.int 5)) (eCons (eC (.int 8)) (eNil)))) (eNil))))))) (gUnp (gsCons (gSet 28) (gsCons (gSet 27) (gsNil)))) (eTrue) (eCall m__law_word (eCons (eC (.int 2)) (eCons (eVar 28) (eCons (eVar 27) (eCons (eC (.str "x")) (eCons (eC (.int 0)) (eCons (eC (.int 0)) (eNil))))))))))))
      (sSeq (sSet 24 (e1 listD (eCons (e1 tupD (eCons (eC (.str "book")) (eCons (eC (.int 0)) (eNil)))) (eCons (e1 tupD (eCons (eC (.str "book")) (eCons (eC (.int 11)) (eNil)))) (eCons (e1 tupD (eCons (eC (.str "worths")) (eCons (eC (.int 1)) (eNil)))) (eCons (e1 tupD (eCons (eC (.str "pieces")) (eCons (eC (.int 9)) (eNil)))) (eCons (e1 tupD (eCons (eC (.str "pieces")) (eCons (eC (.int 0)) (eNil)))) (eCons (e1 tupD (eCons (eC (.str "word")) (eCons (eC (.int 0)) (eNil)))) (eCons (e1 tupD (eCons (eC (.str "word")) (eCons (eC (.int 0)) (eNil)))) (eCons (e1 tupD (eCons (eC (.str "bidder")) (eCons (eC (.int 2)) (eNil)))) (eCons (e1 tupD (eCons (eC (.str "worths")) (eCons (e1 negD (eC (.int 1))) (eNil)))) (eNil))))))))))))
      (sRet (e2 eqD (eVarB 23) (e2 addD (eVarB 24) (e1 listD (eCons (e1 tupD (eCons (eC (.str "book")) (eCons (eC (.int 0)) (eNil)))) (eCons (e1 tupD (eCons (eC (.str "book")) (eCons (eC (.int 11)) (eNil)))) (eCons (e1 tupD (eCons (eC (.str "pieces")) (eCons (eC (.int 9)) (eNil)))) (eCons (e1 tupD (eCons (eC (.str "word")) (eCons (eC (.int 0)) (eNil)))) (eNil))))))))))))))))
theorem sc_law : FnScope ["script", "draws", "turn", "k", "n", "m", "step", "base", "kind", "worths", "income", "word", "weights", "back", "whole", "rest", "order", "part", "t", "lie", "told", "truth", "gain", "bads", "due", "one", "j", "pieces", "many"] ["script"] (defScope st_law) := ⟨rfl, rfl, rfl, by decide +kernel, rfl, by decide +kernel, by decide +kernel⟩
theorem ok_law {w : World} {K : PySem.W.Frag} {mg : Str → Option Value} {base : Heap} (m : M K mg) {fd : FuncData} (F : FnP K "law" st_law (He.ga K "law") fd) : FnOk PP w K mg base (L2.CX PP w) 8 (He.ga K "law") fd ["script"] (spOf K mg 1 m_law) := by
  obtain ⟨fd__law_draws, F__law_draws⟩ := m.fn__law_draws
  have k__law_draws := ok__law_draws (w := w) (base := base) m F__law_draws
  have b__law_draws : Binds K fd__law_draws ["script"] [] := FunD.bindsN (ps := ["script"]) F__law_draws fun _ _ _ _ _ _ us hl => match us, hl with | [_], _ => rfl
  obtain ⟨fd__law_mix, F__law_mix⟩ := m.fn__law_mix
  have k__law_mix := ok__law_mix (w := w) (base := base) m F__law_mix
  have b__law_mix : Binds K fd__law_mix ["draws", "k", "many"] [] := FunD.bindsN (ps := ["draws", "k", "many"]) F__law_mix fun _ _ _ _ _ _ us hl => match us, hl with | [_, _, _], _ => rfl
  obtain ⟨fd__law_price, F__law_price⟩ := m.fn__law_price
  have k__law_price := ok__law_price (w := w) (base := base) m F__law_price
  have b__law_price : Binds K fd__law_price ["worths", "m"] [] := FunD.bindsN (ps := ["worths", "m"]) F__law_price fun _ _ _ _ _ _ us hl => match us, hl with | [_, _], _ => rfl
  obtain ⟨fd_income_of, F_income_of⟩ := m.fn_income_of
  have k_income_of := ok_income_of (w := w) (base := base) m F_income_of
  have b_income_of : Binds K fd_income_of ["worths", "pieces"] [] := FunD.bindsN (ps := ["worths", "pieces"]) F_income_of fun _ _ _ _ _ _ us hl => match us, hl with | [_, _], _ => rfl
  obtain ⟨fd__law_back, F__law_back⟩ := m.fn__law_back
  have k__law_back := ok__law_back (w := w) (base := base) m F__law_back
  have b__law_back : Binds K fd__law_back ["worths", "m", "word", "k"] [] := FunD.bindsN (ps := ["worths", "m", "word", "k"]) F__law_back fun _ _ _ _ _ _ us hl => match us, hl with | [_, _, _, _], _ => rfl
  obtain ⟨fd__law_weights, F__law_weights⟩ := m.fn__law_weights
  have k__law_weights := ok__law_weights (w := w) (base := base) m F__law_weights
  have b__law_weights : Binds K fd__law_weights ["n", "m", "word"] [] := FunD.bindsN (ps := ["n", "m", "word"]) F__law_weights fun _ _ _ _ _ _ us hl => match us, hl with | [_, _, _], _ => rfl
  obtain ⟨fd__law_sum, F__law_sum⟩ := m.fn__law_sum
  have k__law_sum := ok__law_sum (w := w) (base := base) m F__law_sum
  have b__law_sum : Binds K fd__law_sum ["rows"] [] := FunD.bindsN (ps := ["rows"]) F__law_sum fun _ _ _ _ _ _ us hl => match us, hl with | [_], _ => rfl
  obtain ⟨fd__law_add, F__law_add⟩ := m.fn__law_add
  have k__law_add := ok__law_add (w := w) (base := base) m F__law_add
  have b__law_add : Binds K fd__law_add ["one", "two"] [] := FunD.bindsN (ps := ["one", "two"]) F__law_add fun _ _ _ _ _ _ us hl => match us, hl with | [_, _], _ => rfl
  obtain ⟨fd_left_over, F_left_over⟩ := m.fn_left_over
  have k_left_over := ok_left_over (w := w) (base := base) m F_left_over
  have b_left_over : Binds K fd_left_over ["worths", "pieces", "word"] [] := FunD.bindsN (ps := ["worths", "pieces", "word"]) F_left_over fun _ _ _ _ _ _ us hl => match us, hl with | [_, _, _], _ => rfl
  obtain ⟨fd_given_back, F_given_back⟩ := m.fn_given_back
  have k_given_back := ok_given_back (w := w) (base := base) m F_given_back
  have b_given_back : Binds K fd_given_back ["worths", "pieces", "word"] [] := FunD.bindsN (ps := ["worths", "pieces", "word"]) F_given_back fun _ _ _ _ _ _ us hl => match us, hl with | [_, _, _], _ => rfl
  obtain ⟨fd_weights_of, F_weights_of⟩ := m.fn_weights_of
  have k_weights_of := ok_weights_of (w := w) (base := base) m F_weights_of
  have b_weights_of : Binds K fd_weights_of ["many", "pieces", "word"] [] := FunD.bindsN (ps := ["many", "pieces", "word"]) F_weights_of fun _ _ _ _ _ _ us hl => match us, hl with | [_, _, _], _ => rfl
  obtain ⟨fd__law_low, F__law_low⟩ := m.fn__law_low
  have k__law_low := ok__law_low (w := w) (base := base) m F__law_low
  have b__law_low : Binds K fd__law_low ["n", "d"] [] := FunD.bindsN (ps := ["n", "d"]) F__law_low fun _ _ _ _ _ _ us hl => match us, hl with | [_, _], _ => rfl
  obtain ⟨fd__law_sets, F__law_sets⟩ := m.fn__law_sets
  have k__law_sets := ok__law_sets (w := w) (base := base) m F__law_sets
  have b__law_sets : Binds K fd__law_sets ["things", "many"] [] := FunD.bindsN (ps := ["things", "many"]) F__law_sets fun _ _ _ _ _ _ us hl => match us, hl with | [_, _], _ => rfl
  obtain ⟨fd__law_gain, F__law_gain⟩ := m.fn__law_gain
  have k__law_gain := ok__law_gain (w := w) (base := base) m F__law_gain
  have b__law_gain : Binds K fd__law_gain ["worths", "told", "m", "word", "k"] [] := FunD.bindsN (ps := ["worths", "told", "m", "word", "k"]) F__law_gain fun _ _ _ _ _ _ us hl => match us, hl with | [_, _, _, _, _], _ => rfl
  obtain ⟨fd_gain_with, F_gain_with⟩ := m.fn_gain_with
  have k_gain_with := ok_gain_with (w := w) (base := base) m F_gain_with
  have b_gain_with : Binds K fd_gain_with ["worths", "pieces", "word", "k", "lie"] [] := FunD.bindsN (ps := ["worths", "pieces", "word", "k", "lie"]) F_gain_with fun _ _ _ _ _ _ us hl => match us, hl with | [_, _, _, _, _], _ => rfl
  obtain ⟨fd__law_word, F__law_word⟩ := m.fn__law_word
  have k__law_word := ok__law_word (w := w) (base := base) m F__law_word
  have b__law_word : Binds K fd__law_word ["which", "worths", "pieces", "word", "k", "lie"] [] := FunD.bindsN (ps := ["which", "worths", "pieces", "word", "k", "lie"]) F__law_word fun _ _ _ _ _ _ us hl => match us, hl with | [_, _, _, _, _, _], _ => rfl
  exact fnD_ok F sc_law rfl rfl (by decide) fun cdv A outer s H E hr =>
   ps_seq (pq_set (i := 1) sc_law.nd rfl (by first | exact Or.inl rfl | exact Or.inr rfl) (pf_call k__law_draws (hr.mono (by decide)) rfl m.gl__law_draws F__law_draws.kp b__law_draws (takes_of rfl rfl rfl rfl) (pf_cons (pf_var 0) (pf_nil)) (len_cons (len_nil))))
      (ps_seq (pq_for (passes_of rfl) rfl (pf_range1 rfl (m.fr_range) (pf_consB (pf_b (pf_int)) (pf_nilB))) (pf_gname 2 sc_law.nd rfl (by first | exact Or.inl rfl | exact Or.inr rfl))
      (ps_seq (pq_set (i := 3) sc_law.nd rfl (by first | exact Or.inl rfl | exact Or.inr rfl) (pf_add rfl (pf_b (pf_int)) (pf_b (pf_mul (pf_b (pf_int)) (pf_varB 2)))))
      (ps_seq (pq_asg (pf_tup (pf_cons (pf_add rfl (pf_b (pf_int)) (pf_b (pf_call k__law_mix (hr.mono (by decide)) rfl m.gl__law_mix F__law_mix.kp b__law_mix (takes_of rfl rfl rfl rfl) (pf_cons (pf_var 1) (pf_cons (pf_var 3) (pf_cons (pf_int) (pf_nil)))) (len_cons (len_cons (len_cons (len_nil))))))) (pf_cons (pf_add rfl (pf_b (pf_int)) (pf_b (pf_call k__law_mix (hr.mono (by decide)) rfl m.gl__law_mix F__law_mix.kp b__law_mix (takes_of rfl rfl rfl rfl) (pf_cons (pf_var 1) (pf_cons (pf_add rfl (pf_varB 3) (pf_b (pf_int))) (pf_cons (pf_sub1 rfl (pf_b (pf_n (pf_lst (pf_cons (pf_int) (pf_cons (pf_int) (pf_nil))) (by decide) (len_cons (len_cons (len_nil)))))) (pf_b (pf_call k__law_mix (hr.mono (by decide)) rfl m.gl__law_mix F__law_mix.kp b__law_mix (takes_of rfl rfl rfl rfl) (pf_cons (pf_var 1) (pf_cons (pf_add rfl (pf_varB 3) (pf_b (pf_int))) (pf_cons (pf_int) (pf_nil)))) (len_cons (len_cons (len_cons (len_nil))))))) (pf_nil)))) (len_cons (len_cons (len_cons (len_nil))))))) (pf_nil))) (by decide) (len_cons (len_cons (len_nil)))) (pf_gtup rfl rfl (pf_gcons (pf_gname 4 sc_law.nd rfl (by first | exact Or.inl rfl | exact Or.inr rfl)) (pf_gcons (pf_gname 5 sc_law.nd rfl (by first | exact Or.inl rfl | exact Or.inr rfl)) (pf_gnil))) (gsCons_len (gsCons_len (gsNil_len)))))
      (ps_seq (pq_asg (pf_tup (pf_cons (pf_call k__law_mix (hr.mono (by decide)) rfl m.gl__law_mix F__law_mix.kp b__law_mix (takes_of rfl rfl rfl rfl) (pf_cons (pf_var 1) (pf_cons (pf_add rfl (pf_varB 3) (pf_b (pf_int))) (pf_cons (pf_int) (pf_nil)))) (len_cons (len_cons (len_cons (len_nil))))) (pf_cons (pf_call k__law_mix (hr.mono (by decide)) rfl m.gl__law_mix F__law_mix.kp b__law_mix (takes_of rfl rfl rfl rfl) (pf_cons (pf_var 1) (pf_cons (pf_add rfl (pf_varB 3) (pf_b (pf_int))) (pf_cons (pf_int) (pf_nil)))) (len_cons (len_cons (len_cons (len_nil))))) (pf_nil))) (by decide) (len_cons (len_cons (len_nil)))) (pf_gtup rfl rfl (pf_gcons (pf_gname 6 sc_law.nd rfl (by first | exact Or.inl rfl | exact Or.inr rfl)) (pf_gcons (pf_gname 7 sc_law.nd rfl (by first | exact Or.inl rfl | exact Or.inr rfl)) (pf_gnil))) (gsCons_len (gsCons_len (gsNil_len)))))
      (ps_seq (pq_set (i := 8) sc_law.nd rfl (by first | exact Or.inl rfl | exact Or.inr rfl) (pf_call k__law_mix (hr.mono (by decide)) rfl m.gl__law_mix F__law_mix.kp b__law_mix (takes_of rfl rfl rfl rfl) (pf_cons (pf_var 1) (pf_cons (pf_add rfl (pf_varB 3) (pf_b (pf_int))) (pf_cons (pf_int) (pf_nil)))) (len_cons (len_cons (len_cons (len_nil))))))
      (ps_seq (pq_set (i := 9) sc_law.nd rfl (by first | exact Or.inl rfl | exact Or.inr rfl) (pf_n (pf_lc (own := [("t", 18)]) rfl sc_law.nd (pf_range1 rfl (m.fr_range) (pf_consB (pf_varB 4) (pf_nilB))) (blkOk_by (by kernel_rfl)) (fun _ _ _ _ _ => pf_gname 18 sc_law.nd rfl (by first | exact Or.inl rfl | exact Or.inr rfl)) (fun _ _ _ _ _ => pf_tyes) (fun _ _ _ _ _ => pf_sub1 rfl (pf_b (pf_n (pf_lst (pf_cons (pf_call k__law_mix (hr.mono (by decide)) rfl m.gl__law_mix F__law_mix.kp b__law_mix Pf.takes0 (pf_cons (pf_var 1) (pf_cons (pf_add rfl (pf_b (pf_add rfl (pf_varB 3) (pf_b (pf_int)))) (pf_varB 18)) (pf_cons (pf_int) (pf_nil)))) (len_cons (len_cons (len_cons (len_nil))))) (pf_cons (pf_var 7) (pf_cons (pf_add rfl (pf_varB 7) (pf_b (pf_mul (pf_varB 6) (pf_b (pf_sub (pf_varB 4) (pf_varB 18)))))) (pf_cons (pf_call k__law_mix (hr.mono (by decide)) rfl m.gl__law_mix F__law_mix.kp b__law_mix Pf.takes0 (pf_cons (pf_var 1) (pf_cons (pf_add rfl (pf_b (pf_add rfl (pf_varB 3) (pf_b (pf_int)))) (pf_varB 18)) (pf_cons (pf_int) (pf_nil)))) (len_cons (len_cons (len_cons (len_nil))))) (pf_nil))))) (by decide) (len_cons (len_cons (len_cons (len_cons (len_nil)))))))) (pf_varB 8)))))
      (ps_seq (pq_set (i := 10) sc_law.nd rfl (by first | exact Or.inl rfl | exact Or.inr rfl) (pf_mul (pf_b (pf_call k__law_price (hr.mono (by decide)) rfl m.gl__law_price F__law_price.kp b__law_price (takes_of rfl rfl rfl rfl) (pf_cons (pf_var 9) (pf_cons (pf_var 5) (pf_nil))) (len_cons (len_cons (len_nil))))) (pf_b (pf_min2 rfl (m.fr_min) (pf_varB 4) (pf_varB 5)))))
      (ps_seq (pq_if (pf_cmpT (cm_ne rfl (u64 hr)) (pf_b (pf_call k_income_of (hr.mono (by decide)) rfl m.gl_income_of F_income_of.kp b_income_of (takes_of rfl rfl rfl rfl) (pf_cons (pf_n (pf_list (m.fr_list) (pf_varB 9))) (pf_cons (pf_var 5) (pf_nil))) (len_cons (len_cons (len_nil))))) (pf_varB 10))
      (ps_1 (pq_ret (pf_bl)))
      (ps_nil))
      (ps_1 (pq_for (passes_of rfl) rfl (pf_iF rfl (pf_n (pf_lst (pf_cons (pf_str) (pf_cons (pf_str) (pf_nil))) (by decide) (len_cons (len_cons (len_nil)))))) (pf_gname 11 sc_law.nd rfl (by first | exact Or.inl rfl | exact Or.inr rfl))
      (ps_seq (pq_parM (i := 12) (j := 13) rfl sc_law.nd rfl rfl (by decide) rfl rfl (pf_mval (pf_call k__law_weights (hr.mono (by decide)) rfl m.gl__law_weights F__law_weights.kp b__law_weights (takes_of rfl rfl rfl rfl) (pf_cons (pf_var 4) (pf_cons (pf_var 5) (pf_cons (pf_var 11) (pf_nil)))) (len_cons (len_cons (len_cons (len_nil))))) (pf_mval (pf_n (pf_lc (own := [("t", 18)]) rfl sc_law.nd (pf_range1 rfl (m.fr_range) (pf_consB (pf_varB 4) (pf_nilB))) (blkOk_by (by kernel_rfl)) (fun _ _ _ _ _ => pf_gname 18 sc_law.nd rfl (by first | exact Or.inl rfl | exact Or.inr rfl)) (fun _ _ _ _ _ => pf_tyes) (fun _ _ _ _ _ => pf_call k__law_back (hr.mono (by decide)) rfl m.gl__law_back F__law_back.kp b__law_back Pf.takes0 (pf_cons (pf_var 9) (pf_cons (pf_var 5) (pf_cons (pf_var 11) (pf_cons (pf_var 18) (pf_nil))))) (len_cons (len_cons (len_cons (len_cons (len_nil)))))))) (pf_mnil))))
      (ps_seq (pq_set (i := 14) sc_law.nd rfl (by first | exact Or.inl rfl | exact Or.inr rfl) (pf_call k__law_sum (hr.mono (by decide)) rfl m.gl__law_sum F__law_sum.kp b__law_sum (takes_of rfl rfl rfl rfl) (pf_cons (pf_var 13) (pf_nil)) (len_cons (len_nil))))
      (ps_seq (pq_set (i := 15) sc_law.nd rfl (by first | exact Or.inl rfl | exact Or.inr rfl) (pf_call k__law_add (hr.mono (by decide)) rfl m.gl__law_add F__law_add.kp b__law_add (takes_of rfl rfl rfl rfl) (pf_cons (pf_tup (pf_cons (pf_var 10) (pf_cons (pf_int) (pf_nil))) (by decide) (len_cons (len_cons (len_nil)))) (pf_cons (pf_tup (pf_cons (pf_neg (pf_b (pf_sub1 rfl (pf_varB 14) (pf_b (pf_int))))) (pf_cons (pf_sub1 rfl (pf_varB 14) (pf_b (pf_int))) (pf_nil))) (by decide) (len_cons (len_cons (len_nil)))) (pf_nil))) (len_cons (len_cons (len_nil)))))
      (ps_seq (pq_if (PW.pt (pf_or (pf_cmpT (cm_ne rfl (u64 hr)) (pf_b (pf_call k_weights_of (hr.mono (by decide)) rfl m.gl_weights_of F_weights_of.kp b_weights_of (takes_of rfl rfl rfl rfl) (pf_cons (pf_var 4) (pf_cons (pf_var 5) (pf_cons (pf_var 11) (pf_nil)))) (len_cons (len_cons (len_cons (len_nil)))))) (pf_varB 12)) (pf_or (pf_cmpT (cm_ne rfl (u64 hr)) (pf_b (pf_call k_given_back (hr.mono (by decide)) rfl m.gl_given_back F_given_back.kp b_given_back (takes_of rfl rfl rfl rfl) (pf_cons (pf_n (pf_list (m.fr_list) (pf_varB 9))) (pf_cons (pf_var 5) (pf_cons (pf_var 11) (pf_nil)))) (len_cons (len_cons (len_cons (len_nil)))))) (pf_varB 13)) (pf_or1 (pf_cmpT (cm_ne rfl (u64 hr)) (pf_b (pf_call k_left_over (hr.mono (by decide)) rfl m.gl_left_over F_left_over.kp b_left_over (takes_of rfl rfl rfl rfl) (pf_cons (pf_n (pf_list (m.fr_list) (pf_varB 9))) (pf_cons (pf_var 5) (pf_cons (pf_var 11) (pf_nil)))) (len_cons (len_cons (len_cons (len_nil)))))) (pf_varB 15))))))
      (ps_1 (pq_ret (pf_bl)))
      (ps_nil))
      (ps_seq (pq_if (PW.pt (pf_or (pf_cmpT cm_lt (pf_b (pf_sub1 rfl (pf_varB 15) (pf_b (pf_int)))) (pf_b (pf_int))) (pf_or1 (pf_cmpT cm_lt (pf_b (pf_min rfl (m.fr_min) (pf_b (pf_n (pf_lc (own := [("one", 25)]) rfl sc_law.nd (pf_iB rfl (pf_varB 13)) (blkOk_by (by kernel_rfl)) (fun _ _ _ _ _ => pf_gname 25 sc_law.nd rfl (by first | exact Or.inl rfl | exact Or.inr rfl)) (fun _ _ _ _ _ => pf_tyes) (fun _ _ _ _ _ => pf_sub1 rfl (pf_varB 25) (pf_b (pf_int)))))))) (pf_b (pf_int))))))
      (ps_1 (pq_ret (pf_bl)))
      (ps_nil))
      (ps_seq (pq_if (PW.pt (pf_and (pf_cmpT (cm_eq rfl (u64 hr)) (pf_varB 11) (pf_b (pf_str))) (pf_and1 (pf_cmpT cm_ge (pf_varB 4) (pf_b (pf_add rfl (pf_varB 5) (pf_b (pf_int))))))))
      (ps_seq (pq_set (i := 16) sc_law.nd rfl (by first | exact Or.inl rfl | exact Or.inr rfl) (pf_n (pf_revN (pf_b (pf_n (pf_sorted (m.fr_sorted) (pf_varB 9)))))))
      (ps_1 (pq_if (pf_cmpT (cm_ne rfl (u64 hr)) (pf_varB 15) (pf_b (pf_call k__law_low (hr.mono (by decide)) rfl m.gl__law_low F__law_low.kp b__law_low (takes_of rfl rfl rfl rfl) (pf_cons (pf_mul (pf_b (pf_mul (pf_varB 5) (pf_b (pf_add rfl (pf_varB 5) (pf_b (pf_int)))))) (pf_b (pf_sub (pf_b (pf_sub1 rfl (pf_varB 16) (pf_varB 5))) (pf_b (pf_sub1 rfl (pf_varB 16) (pf_b (pf_add rfl (pf_varB 5) (pf_b (pf_int))))))))) (pf_cons (pf_var 4) (pf_nil))) (len_cons (len_cons (len_nil))))))
      (ps_1 (pq_ret (pf_bl)))
      (ps_nil))))
      (ps_nil))
      (ps_seq (pq_set (i := 17) sc_law.nd rfl (by first | exact Or.inl rfl | exact Or.inr rfl) (pf_call k__law_low (hr.mono (by decide)) rfl m.gl__law_low F__law_low.kp b__law_low (takes_of rfl rfl rfl rfl) (pf_cons (pf_call k__law_sets (hr.mono (by decide)) rfl m.gl__law_sets F__law_sets.kp b__law_sets (takes_of rfl rfl rfl rfl) (pf_cons (pf_sub (pf_varB 4) (pf_b (pf_int))) (pf_cons (pf_var 5) (pf_nil))) (len_cons (len_cons (len_nil)))) (pf_cons (pf_max2 rfl (m.fr_max) (pf_b (pf_int)) (pf_b (pf_sum rfl (m.fr_sum) (pf_b (pf_n (pf_lc (own := [("j", 26)]) rfl sc_law.nd (pf_range2 rfl (m.fr_range) (pf_consB (pf_varB 5) (pf_consB (pf_varB 4) (pf_nilB)))) (blkOk_by (by kernel_rfl)) (fun _ _ _ _ _ => pf_gname 26 sc_law.nd rfl (by first | exact Or.inl rfl | exact Or.inr rfl)) (fun _ _ _ _ _ => pf_tyes) (fun _ _ _ _ _ => pf_call k__law_sets (hr.mono (by decide)) rfl m.gl__law_sets F__law_sets.kp b__law_sets Pf.takes0 (pf_cons (pf_sub (pf_varB 4) (pf_b (pf_int))) (pf_cons (pf_var 26) (pf_nil))) (len_cons (len_cons (len_nil)))))))))) (pf_nil))) (len_cons (len_cons (len_nil)))))
      (ps_seq (pq_if (PW.pt (pf_and (pf_cmpT (cm_eq rfl (u64 hr)) (pf_varB 11) (pf_b (pf_str))) (pf_and (pf_cmpT cm_ge (pf_varB 4) (pf_b (pf_add rfl (pf_varB 5) (pf_b (pf_int))))) (pf_and1 (pf_cmpT cm_gt (pf_b (pf_mul (pf_b (pf_sub1 rfl (pf_varB 15) (pf_b (pf_int)))) (pf_b (pf_sub1 rfl (pf_varB 17) (pf_b (pf_int)))))) (pf_b (pf_mul (pf_b (pf_mul (pf_b (pf_sub1 rfl (pf_varB 17) (pf_b (pf_int)))) (pf_varB 10))) (pf_b (pf_sub1 rfl (pf_varB 15) (pf_b (pf_int)))))))))))
      (ps_1 (pq_ret (pf_bl)))
      (ps_nil))
      (ps_seq (pq_if (PW.pt (pf_and (pf_cmpT cm_lt (pf_varB 4) (pf_b (pf_add rfl (pf_varB 5) (pf_b (pf_int))))) (pf_and1 (PW.pt (pf_or (pf_cmpT (cm_ne rfl (u64 hr)) (pf_varB 12) (pf_b (pf_n (pf_lst (pf_nil) (by decide) (len_nil))))) (pf_or1 (pf_cmpT (cm_ne rfl (u64 hr)) (pf_varB 14) (pf_b (pf_tup (pf_cons (pf_int) (pf_cons (pf_int) (pf_nil))) (by decide) (len_cons (len_cons (len_nil))))))))))))
      (ps_1 (pq_ret (pf_bl)))
      (ps_nil))
      (ps_1 (pq_for (passes_of rfl) rfl (pf_range1 rfl (m.fr_range) (pf_consB (pf_varB 4) (pf_nilB))) (pf_gname 18 sc_law.nd rfl (by first | exact Or.inl rfl | exact Or.inr rfl))
      (ps_seq (pq_set (i := 19) sc_law.nd rfl (by first | exact Or.inl rfl | exact Or.inr rfl) (pf_sub1 rfl (pf_b (pf_n (pf_lst (pf_cons (pf_int) (pf_cons (pf_int) (pf_cons (pf_call k__law_mix (hr.mono (by decide)) rfl m.gl__law_mix F__law_mix.kp b__law_mix (takes_of rfl rfl rfl rfl) (pf_cons (pf_var 1) (pf_cons (pf_add rfl (pf_b (pf_add rfl (pf_varB 3) (pf_b (pf_int)))) (pf_varB 18)) (pf_cons (pf_int) (pf_nil)))) (len_cons (len_cons (len_cons (len_nil))))) (pf_cons (pf_call k__law_price (hr.mono (by decide)) rfl m.gl__law_price F__law_price.kp b__law_price (takes_of rfl rfl rfl rfl) (pf_cons (pf_var 9) (pf_cons (pf_var 5) (pf_nil))) (len_cons (len_cons (len_nil)))) (pf_nil))))) (by decide) (len_cons (len_cons (len_cons (len_cons (len_nil)))))))) (pf_b (pf_call k__law_mix (hr.mono (by decide)) rfl m.gl__law_mix F__law_mix.kp b__law_mix (takes_of rfl rfl rfl rfl) (pf_cons (pf_var 1) (pf_cons (pf_add rfl (pf_b (pf_add rfl (pf_varB 3) (pf_b (pf_int)))) (pf_varB 18)) (pf_cons (pf_int) (pf_nil)))) (len_cons (len_cons (len_cons (len_nil))))))))
      (ps_seq (pq_set (i := 20) sc_law.nd rfl (by first | exact Or.inl rfl | exact Or.inr rfl) (pf_add rfl (pf_b (pf_add rfl (pf_b (pf_slF rfl (pf_varB 9) (pf_pnone) (pf_psome (pf_varB 18)))) (pf_b (pf_n (pf_lst (pf_cons (pf_var 19) (pf_nil)) (by decide) (len_cons (len_nil))))))) (pf_b (pf_slF rfl (pf_varB 9) (pf_psome (pf_b (pf_add rfl (pf_varB 18) (pf_b (pf_int))))) (pf_pnone)))))
      (ps_seq (pq_parM (i := 21) (j := 22) rfl sc_law.nd rfl rfl (by decide) rfl rfl (pf_mval (pf_call k__law_gain (hr.mono (by decide)) rfl m.gl__law_gain F__law_gain.kp b__law_gain (takes_of rfl rfl rfl rfl) (pf_cons (pf_var 9) (pf_cons (pf_var 9) (pf_cons (pf_var 5) (pf_cons (pf_var 11) (pf_cons (pf_var 18) (pf_nil)))))) (len_cons (len_cons (len_cons (len_cons (len_cons (len_nil))))))) (pf_mval (pf_call k__law_gain (hr.mono (by decide)) rfl m.gl__law_gain F__law_gain.kp b__law_gain (takes_of rfl rfl rfl rfl) (pf_cons (pf_var 9) (pf_cons (pf_var 20) (pf_cons (pf_var 5) (pf_cons (pf_var 11) (pf_cons (pf_var 18) (pf_nil)))))) (len_cons (len_cons (len_cons (len_cons (len_cons (len_nil))))))) (pf_mnil))))
      (ps_1 (pq_if (PW.pt (pf_or (pf_cmpT (cm_ne rfl (u64 hr)) (pf_b (pf_call k_gain_with (hr.mono (by decide)) rfl m.gl_gain_with F_gain_with.kp b_gain_with (takes_of rfl rfl rfl rfl) (pf_cons (pf_n (pf_list (m.fr_list) (pf_varB 9))) (pf_cons (pf_var 5) (pf_cons (pf_var 11) (pf_cons (pf_var 18) (pf_cons (pf_var 19) (pf_nil)))))) (len_cons (len_cons (len_cons (len_cons (len_cons (len_nil)))))))) (pf_varB 22)) (pf_or (pf_cmpT (cm_ne rfl (u64 hr)) (pf_b (pf_call k_gain_with (hr.mono (by decide)) rfl m.gl_gain_with F_gain_with.kp b_gain_with (takes_of rfl rfl rfl rfl) (pf_cons (pf_n (pf_list (m.fr_list) (pf_varB 9))) (pf_cons (pf_var 5) (pf_cons (pf_var 11) (pf_cons (pf_var 18) (pf_cons (pf_sub1 rfl (pf_varB 9) (pf_varB 18)) (pf_nil)))))) (len_cons (len_cons (len_cons (len_cons (len_cons (len_nil)))))))) (pf_varB 21)) (pf_or1 (pf_cmpT cm_gt (pf_b (pf_mul (pf_b (pf_sub1 rfl (pf_varB 22) (pf_b (pf_int)))) (pf_b (pf_sub1 rfl (pf_varB 21) (pf_b (pf_int)))))) (pf_b (pf_mul (pf_b (pf_sub1 rfl (pf_varB 21) (pf_b (pf_int)))) (pf_b (pf_sub1 rfl (pf_varB 22) (pf_b (pf_int)))))))))))
      (ps_1 (pq_ret (pf_bl)))
      (ps_nil)))))))))))))))))))))))))))
      (ps_seq (pq_set (i := 23) sc_law.nd rfl (by first | exact Or.inl rfl | exact Or.inr rfl) (pf_n (pf_lst (pf_cons (pf_call k__law_word (hr.mono (by decide)) rfl m.gl__law_word F__law_word.kp b__law_word (takes_of rfl rfl rfl rfl) (pf_cons (pf_int) (pf_cons (pf_n (pf_lst (pf_nil) (by decide) (len_nil))) (pf_cons (pf_int) (pf_cons (pf_str) (pf_cons (pf_int) (pf_cons (pf_int) (pf_nil))))))) (len_cons (len_cons (len_cons (len_cons (len_cons (len_cons (len_nil)))))))) (pf_cons (pf_call k__law_word (hr.mono (by decide)) rfl m.gl__law_word F__law_word.kp b__law_word (takes_of rfl rfl rfl rfl) (pf_cons (pf_int) (pf_cons (pf_mul (pf_b (pf_n (pf_lst (pf_cons (pf_int) (pf_nil)) (by decide) (len_cons (len_nil))))) (pf_b (pf_int))) (pf_cons (pf_int) (pf_cons (pf_str) (pf_cons (pf_int) (pf_cons (pf_int) (pf_nil))))))) (len_cons (len_cons (len_cons (len_cons (len_cons (len_cons (len_nil)))))))) (pf_cons (pf_call k__law_word (hr.mono (by decide)) rfl m.gl__law_word F__law_word.kp b__law_word (takes_of rfl rfl rfl rfl) (pf_cons (pf_int) (pf_cons (pf_n (pf_lst (pf_cons (pf_int) (pf_cons (pf_neg (pf_b (pf_int))) (pf_nil))) (by decide) (len_cons (len_cons (len_nil))))) (pf_cons (pf_int) (pf_cons (pf_str) (pf_cons (pf_int) (pf_cons (pf_int) (pf_nil))))))) (len_cons (len_cons (len_cons (len_cons (len_cons (len_cons (len_nil)))))))) (pf_nil)))) (by decide) (len_cons (len_cons (len_cons (len_nil)))))))
      (ps_seq (pq_set (i := 23) sc_law.nd rfl (by first | exact Or.inl rfl | exact Or.inr rfl) (pf_add rfl (pf_b (pf_add rfl (pf_varB 23) (pf_b (pf_n (pf_lc (own := [("pieces", 27)]) rfl sc_law.nd (pf_iB rfl (pf_b (pf_n (pf_lst (pf_cons (pf_int) (pf_cons (pf_int) (pf_cons (pf_int) (pf_nil)))) (by decide) (len_cons (len_cons (len_cons (len_nil)))))))) (blkOk_by (by kernel_rfl)) (fun _ _ _ _ _ => pf_gname 27 sc_law.nd rfl (by first | exact Or.inl rfl | exact Or.inr rfl)) (fun _ _ _ _ _ => pf_tyes) (fun _ _ _ _ _ => pf_call k__law_word (hr.mono (by decide)) rfl m.gl__law_word F__law_word.kp b__law_word Pf.takes0 (pf_cons (pf_int) (pf_cons (pf_n (pf_lst (pf_cons (pf_int) (pf_cons (pf_int) (pf_nil))) (by decide) (len_cons (len_cons (len_nil))))) (pf_cons (pf_var 27) (pf_cons (pf_str) (pf_cons (pf_int) (pf_cons (pf_int) (pf_nil))))))) (len_cons (len_cons (len_cons (len_cons (len_cons (len_cons (len_nil))))))))))))) (pf_b (pf_n (pf_lst (pf_cons (pf_call k__law_word (hr.mono (by decide)) rfl m.gl__law_word F__law_word.kp b__law_word (takes_of rfl rfl rfl rfl) (pf_cons (pf_int) (pf_cons (pf_n (pf_lst (pf_cons (pf_int) (pf_cons (pf_int) (pf_nil))) (by decide) (len_cons (len_cons (len_nil))))) (pf_cons (pf_int) (pf_cons (pf_str) (pf_cons (pf_int) (pf_cons (pf_neg (pf_b (pf_int))) (pf_nil))))))) (len_cons (len_cons (len_cons (len_cons (len_cons (len_cons (len_nil)))))))) (pf_nil)) (by decide) (len_cons (len_nil)))))))
      (ps_seq (pq_set (i := 23) sc_law.nd rfl (by first | exact Or.inl rfl | exact Or.inr rfl) (pf_add rfl (pf_varB 23) (pf_b (pf_n (pf_lst (pf_cons (pf_call k__law_word (hr.mono (by decide)) rfl m.gl__law_word F__law_word.kp b__law_word (takes_of rfl rfl rfl rfl) (pf_cons (pf_int) (pf_cons (pf_n (pf_lst (pf_cons (pf_int) (pf_cons (pf_int) (pf_nil))) (by decide) (len_cons (len_cons (len_nil))))) (pf_cons (pf_int) (pf_cons (pf_str) (pf_cons (pf_int) (pf_cons (pf_neg (pf_b (pf_int))) (pf_nil))))))) (len_cons (len_cons (len_cons (len_cons (len_cons (len_cons (len_nil)))))))) (pf_cons (pf_call k__law_word (hr.mono (by decide)) rfl m.gl__law_word F__law_word.kp b__law_word (takes_of rfl rfl rfl rfl) (pf_cons (pf_int) (pf_cons (pf_n (pf_lst (pf_cons (pf_int) (pf_cons (pf_int) (pf_nil))) (by decide) (len_cons (len_cons (len_nil))))) (pf_cons (pf_int) (pf_cons (pf_str) (pf_cons (pf_int) (pf_cons (pf_neg (pf_b (pf_int))) (pf_nil))))))) (len_cons (len_cons (len_cons (len_cons (len_cons (len_cons (len_nil)))))))) (pf_nil))) (by decide) (len_cons (len_cons (len_nil))))))))
      (ps_seq (pq_set (i := 23) sc_law.nd rfl (by first | exact Or.inl rfl | exact Or.inr rfl) (pf_add rfl (pf_varB 23) (pf_b (pf_n (pf_lc (own := [("many", 28), ("pieces", 27)]) rfl sc_law.nd (pf_iB rfl (pf_b (pf_n (pf_lst (pf_cons (pf_tup (pf_cons (pf_int) (pf_cons (pf_int) (pf_nil))) (by decide) (len_cons (len_cons (len_nil)))) (pf_cons (pf_tup (pf_cons (pf_int) (pf_cons (pf_int) (pf_nil))) (by decide) (len_cons (len_cons (len_nil)))) (pf_cons (pf_tup (pf_cons (pf_int) (pf_cons (pf_int) (pf_nil))) (by decide) (len_cons (len_cons (len_nil)))) (pf_cons (pf_tup (pf_cons (pf_int) (pf_cons (pf_int) (pf_nil))) (by decide) (len_cons (len_cons (len_nil)))) (pf_nil))))) (by decide) (len_cons (len_cons (len_cons (len_cons (len_nil))))))))) (blkOk_by (by kernel_rfl)) (fun _ _ _ _ _ => pf_gtup rfl rfl (pf_gcons (pf_gname 28 sc_law.nd rfl (by first | exact Or.inl rfl | exact Or.inr rfl)) (pf_gcons (pf_gname 27 sc_law.nd rfl (by first | exact Or.inl rfl | exact Or.inr rfl)) (pf_gnil))) (gsCons_len (gsCons_len (gsNil_len)))) (fun _ _ _ _ _ => pf_tyes) (fun _ _ _ _ _ => pf_call k__law_word (hr.mono (by decide)) rfl m.gl__law_word F__law_word.kp b__law_word Pf.takes0 (pf_cons (pf_int) (pf_cons (pf_var 28) (pf_cons (pf_var 27) (pf_cons (pf_str) (pf_cons (pf_int) (pf_cons (pf_int) (pf_nil))))))) (len_cons (len_cons (len_cons (len_cons (len_cons (len_cons (len_nil)))))))))))))
      (ps_seq (pq_set (i := 24) sc_law.nd rfl (by first | exact Or.inl rfl | exact Or.inr rfl) (pf_n (pf_lst (pf_cons (pf_tup (pf_cons (pf_str) (pf_cons (pf_int) (pf_nil))) (by decide) (len_cons (len_cons (len_nil)))) (pf_cons (pf_tup (pf_cons (pf_str) (pf_cons (pf_int) (pf_nil))) (by decide) (len_cons (len_cons (len_nil)))) (pf_cons (pf_tup (pf_cons (pf_str) (pf_cons (pf_int) (pf_nil))) (by decide) (len_cons (len_cons (len_nil)))) (pf_cons (pf_tup (pf_cons (pf_str) (pf_cons (pf_int) (pf_nil))) (by decide) (len_cons (len_cons (len_nil)))) (pf_cons (pf_tup (pf_cons (pf_str) (pf_cons (pf_int) (pf_nil))) (by decide) (len_cons (len_cons (len_nil)))) (pf_cons (pf_tup (pf_cons (pf_str) (pf_cons (pf_int) (pf_nil))) (by decide) (len_cons (len_cons (len_nil)))) (pf_cons (pf_tup (pf_cons (pf_str) (pf_cons (pf_int) (pf_nil))) (by decide) (len_cons (len_cons (len_nil)))) (pf_cons (pf_tup (pf_cons (pf_str) (pf_cons (pf_int) (pf_nil))) (by decide) (len_cons (len_cons (len_nil)))) (pf_cons (pf_tup (pf_cons (pf_str) (pf_cons (pf_neg (pf_b (pf_int))) (pf_nil))) (by decide) (len_cons (len_cons (len_nil)))) (pf_nil)))))))))) (by decide) (len_cons (len_cons (len_cons (len_cons (len_cons (len_cons (len_cons (len_cons (len_cons (len_nil)))))))))))))
      (ps_1 (pq_ret (pf_cmpV (cm_eq rfl (u64 hr)) (pf_varB 23) (pf_b (pf_add rfl (pf_varB 24) (pf_b (pf_n (pf_lst (pf_cons (pf_tup (pf_cons (pf_str) (pf_cons (pf_int) (pf_nil))) (by decide) (len_cons (len_cons (len_nil)))) (pf_cons (pf_tup (pf_cons (pf_str) (pf_cons (pf_int) (pf_nil))) (by decide) (len_cons (len_cons (len_nil)))) (pf_cons (pf_tup (pf_cons (pf_str) (pf_cons (pf_int) (pf_nil))) (by decide) (len_cons (len_cons (len_nil)))) (pf_cons (pf_tup (pf_cons (pf_str) (pf_cons (pf_int) (pf_nil))) (by decide) (len_cons (len_cons (len_nil)))) (pf_nil))))) (by decide) (len_cons (len_cons (len_cons (len_cons (len_nil)))))))))))))))))))
end K03
/-! K03M: rows that fall, one taken out, sums by beginnings. -/
namespace K03M
open Pf LawC

def desc (l : List Int) : List Int := (sortI l).reverse
def Fal (l : List Int) : Prop := l.Pairwise (· ≥ ·)
theorem desc_perm (l : List Int) : (desc l).Perm l := (List.reverse_perm _).trans (sortI_perm l)
theorem desc_fal (l : List Int) : Fal (desc l) := List.pairwise_reverse.mpr ((sortI_sorted l).imp fun h => h)
theorem desc_len (l : List Int) : (desc l).length = l.length := (desc_perm l).length_eq
theorem fal_uniq {l m : List Int} (p : l.Perm m) (h1 : Fal l) (h2 : Fal m) : l = m := by
  have := sorted_uniq (l := l.reverse) (m := m.reverse) (((List.reverse_perm l).trans p).trans (List.reverse_perm m).symm) (List.pairwise_reverse.mpr (h1.imp fun h => h)) (List.pairwise_reverse.mpr (h2.imp fun h => h))
  exact List.reverse_inj.mp this
theorem desc_of_perm {l m : List Int} (p : l.Perm m) : desc l = desc m := fal_uniq (((desc_perm l).trans p).trans (desc_perm m).symm) (desc_fal l) (desc_fal m)
theorem desc_of_fal {l : List Int} (h : Fal l) : desc l = l := fal_uniq (desc_perm l) (desc_fal l) h
theorem fal_erase {l : List Int} (h : Fal l) (p : Nat) : Fal (l.eraseIdx p) := h.sublist (List.eraseIdx_sublist ..)
theorem erase_perm {l v : List Int} (p : l.Perm v) (k : Nat) (hk : k < l.length) : (l.eraseIdx k).Perm (v.erase l[k]) := by
  have h1 : (l[k] :: l.eraseIdx k).Perm l := by
    rw [List.eraseIdx_eq_take_drop_succ]
    refine List.perm_middle.symm.trans (List.Perm.of_eq ?_)
    rw [← List.drop_eq_getElem_cons hk, List.take_append_drop]
  have hm : l[k] ∈ v := p.mem_iff.mp (List.getElem_mem hk)
  have h2 := List.perm_cons_erase hm
  exact List.Perm.cons_inv ((h1.trans p).trans h2)
/-- the sum over those taken out does not depend on the row's order -/
theorem sum_idx (f : Int → Int) : ∀ l : List Int, ((List.range l.length).map fun k => f (l.getD k 0)).sum = (l.map f).sum
  | [] => rfl
  | x :: l => by
    rw [List.length_cons, List.range_succ_eq_map, List.map_cons, List.map_map, List.sum_cons, List.map_cons, List.sum_cons]
    have := sum_idx f l
    simpa [Function.comp_def] using this
theorem sum_perm {l m : List Int} (p : l.Perm m) : l.sum = m.sum := by
  induction p with
  | nil => rfl
  | cons x _ ih => simp [ih]
  | swap x y l => simp only [List.sum_cons]; omega
  | trans _ _ h1 h2 => exact h1.trans h2
theorem sum_out (f : List Int → Int) (l : List Int) : ((List.range l.length).map fun k => f (desc (l.eraseIdx k))).sum = ((List.range l.length).map fun p => f ((desc l).eraseIdx p)).sum := by
  have key : ∀ m : List Int, m.Perm (desc l) → ((List.range m.length).map fun k => f (desc (m.eraseIdx k))).sum = (m.map fun x => f (desc ((desc l).erase x))).sum := by
    intro m hm
    rw [← sum_idx (fun x => f (desc ((desc l).erase x))) m]
    congr 1
    refine List.map_congr_left fun k hk => ?_
    have hk : k < m.length := List.mem_range.mp hk
    have e : m.getD k 0 = m[k] := by simp [List.getD_eq_getElem?_getD, hk]
    show f (desc (m.eraseIdx k)) = f (desc ((desc l).erase (m.getD k 0)))
    rw [e, desc_of_perm (erase_perm hm k hk)]
  rw [key l (desc_perm l).symm]
  have h2 := key (desc l) (List.Perm.refl _)
  rw [desc_len] at h2
  rw [sum_perm ((desc_perm l).symm.map fun x => f (desc ((desc l).erase x))), ← h2]
  congr 1
  refine List.map_congr_left fun p _ => ?_
  rw [desc_of_fal (fal_erase (desc_fal l) p)]

/-! ### dot -/
def dot : List Int → List Int → Int
  | c :: cs, x :: xs => c * x + dot cs xs
  | _, _ => 0
def nn : Int → List Int → Bool
  | _, [] => true
  | s, c :: cs => decide (0 ≤ s + c) && nn (s + c) cs
theorem abel : ∀ (c x : List Int) (s M : Int), nn s c = true → 0 ≤ s → Fal x → (∀ y ∈ x, 0 ≤ y ∧ y ≤ M) → 0 ≤ M → 0 ≤ s * M + dot c x
  | [], x, s, M, _, hs, _, _, hM => by
    have : 0 ≤ s * M := Int.mul_nonneg hs hM
    simp [dot]; omega
  | c :: cs, [], s, M, _, hs, _, _, hM => by
    have : 0 ≤ s * M := Int.mul_nonneg hs hM
    simp [dot]; omega
  | c :: cs, x :: xs, s, M, h, hs, hf, hx, hM => by
    unfold nn at h
    obtain ⟨h1, h2⟩ := Bool.and_eq_true_iff.mp h
    have h1 : 0 ≤ s + c := of_decide_eq_true h1
    have hx0 := hx x (List.mem_cons_self ..)
    have hf2 := List.pairwise_cons.mp hf
    have := abel cs xs (s + c) x h2 h1 hf2.2 (fun y hy => ⟨(hx y (List.mem_cons_of_mem _ hy)).1, hf2.1 y hy⟩) hx0.1
    have h3 : s * x ≤ s * M := Int.mul_le_mul_of_nonneg_left hx0.2 hs
    simp only [dot]
    have e : (s + c) * x = s * x + c * x := Int.add_mul ..
    omega
theorem abel0 {c x : List Int} (h : nn 0 c = true) (hf : Fal x) (hx : ∀ y ∈ x, 0 ≤ y) : 0 ≤ dot c x := by
  cases x with
  | nil => cases c <;> simp [dot]
  | cons y x =>
    have := abel c (y :: x) 0 y h (Int.le_refl _) hf (fun z hz => ⟨hx z hz, by
      rcases List.mem_cons.mp hz with e | hz
      · omega
      · exact (List.pairwise_cons.mp hf).1 z hz⟩) (hx y (List.mem_cons_self ..))
    omega
theorem dot_zero : ∀ (c x : List Int), (∀ y ∈ c, y = 0) → dot c x = 0
  | [], _, _ => by simp [dot]
  | c :: cs, [], _ => by simp [dot]
  | c :: cs, x :: xs, h => by
    have h0 := h c (List.mem_cons_self ..)
    simp only [dot, dot_zero cs xs fun y hy => h y (List.mem_cons_of_mem _ hy), h0]
    omega
theorem dot_mul (k : Int) : ∀ c x : List Int, dot (c.map (k * ·)) x = k * dot c x
  | [], _ => by simp [dot]
  | c :: cs, [] => by simp [dot]
  | c :: cs, x :: xs => by
    simp only [List.map_cons, dot, dot_mul k cs xs]
    grind
/-- the sum over one taken out at each place, at j -/
theorem sum_at (v : List Int) (j : Nat) (hj : j + 1 < v.length) : ((List.range v.length).map fun p => (v.eraseIdx p).getD j 0).sum = ((v.length : Int) - 1 - j) * v.getD j 0 + ((j : Int) + 1) * v.getD (j + 1) 0 := by
  have key : ∀ n, ((List.range n).map fun p => (v.eraseIdx p).getD j 0).sum = (if n ≤ j + 1 then (n : Int) * v.getD (j + 1) 0 else ((n : Int) - 1 - j) * v.getD j 0 + ((j : Int) + 1) * v.getD (j + 1) 0) := by
    intro n
    induction n with
    | zero => simp
    | succ n ih =>
      rw [List.range_succ, List.map_append, List.sum_append, ih]
      have e : (v.eraseIdx n).getD j 0 = if j < n then v.getD j 0 else v.getD (j + 1) 0 := by
        simp only [List.getD_eq_getElem?_getD, List.getElem?_eraseIdx]
        split <;> rfl
      simp only [List.map_cons, List.map_nil, List.sum_cons, List.sum_nil, e]
      by_cases h1 : n + 1 ≤ j + 1
      · rw [if_pos (by omega), if_pos h1, if_neg (by omega)]
        push_cast
        grind
      · by_cases h2 : n ≤ j + 1
        · have : n = j + 1 := by omega
          subst this
          rw [if_pos (by omega), if_neg h1, if_pos (by omega)]
          push_cast
          grind
        · rw [if_neg h2, if_neg h1, if_pos (by omega)]
          push_cast
          grind
  rw [key, if_neg (by omega)]
end K03M
/-! K03N: the sums over all rows with one taken out; who wins, and what it costs. -/
namespace K03M
open Pf LawC
theorem sum_add (f g : Nat → Int) : ∀ l : List Nat, (l.map fun p => f p + g p).sum = (l.map f).sum + (l.map g).sum
  | [] => rfl
  | x :: l => by simp only [List.map_cons, List.sum_cons, sum_add f g l]; omega
theorem sum_mulL (a : Int) (f : Nat → Int) : ∀ l : List Nat, (l.map fun p => a * f p).sum = a * (l.map f).sum
  | [] => by simp
  | x :: l => by simp only [List.map_cons, List.sum_cons, sum_mulL a f l]; grind
theorem sum_zero : ∀ l : List Nat, (l.map fun _ => (0 : Int)).sum = 0
  | [] => rfl
  | x :: l => by simp only [List.map_cons, List.sum_cons, sum_zero l]; rfl
/-- the weights of a falling row's items in the sum of all that is given back -/
def bl (n : Int) : Int → Int → List Int → List Int
  | carry, _, [] => [carry]
  | carry, j, a :: as => (carry + a * (n - 1 - j)) :: bl n (a * (j + 1)) (j + 1) as
theorem dot_nil (x : List Int) : dot [] x = 0 := by simp [dot]
theorem sum_dot (v : List Int) : ∀ (A : List Int) (j : Nat) (carry : Int), j + A.length < v.length →
    ((List.range v.length).map fun p => dot A ((v.eraseIdx p).drop j)).sum + carry * v.getD j 0 = dot (bl v.length carry j A) (v.drop j)
  | [], j, carry, h => by
    have hj : j < v.length := by simpa using h
    simp only [dot_nil]
    have e2 : v.getD j 0 = v[j] := by simp [List.getD_eq_getElem?_getD, hj]
    rw [sum_zero, List.drop_eq_getElem_cons hj, e2]
    show 0 + carry * v[j] = carry * v[j] + dot [] (v.drop (j + 1))
    rw [dot_nil, Int.zero_add, Int.add_zero]
  | a :: as, j, carry, h => by
    have h' : j + (as.length + 1) < v.length := by simpa using h
    have hj : j < v.length := by omega
    have ih := sum_dot v as (j + 1) (a * ((j : Int) + 1)) (by omega)
    have e : ((List.range v.length).map fun p => dot (a :: as) ((v.eraseIdx p).drop j)) = (List.range v.length).map fun p => a * (v.eraseIdx p).getD j 0 + dot as ((v.eraseIdx p).drop (j + 1)) := by
      refine List.map_congr_left fun p hp => ?_
      have hp : p < v.length := List.mem_range.mp hp
      have hl : (v.eraseIdx p).length = v.length - 1 := by rw [List.length_eraseIdx, if_pos hp]
      have hj2 : j < (v.eraseIdx p).length := by omega
      rw [List.drop_eq_getElem_cons hj2]
      simp only [dot, List.getD_eq_getElem?_getD, List.getElem?_eq_getElem hj2, Option.getD_some]
    rw [e, sum_add, sum_mulL, sum_at v j (by omega)]
    rw [List.drop_eq_getElem_cons hj]
    simp only [bl, dot]
    have e2 : v.getD j 0 = v[j] := by simp [List.getD_eq_getElem?_getD, hj]
    have e3 : ((j + 1 : Nat) : Int) = (j : Int) + 1 := by omega
    rw [e3] at ih
    rw [← ih, e2]
    grind

/-! ### who wins -/
/-- the price that one meets: the others' m-th -/
def meets (o : List Int) (m : Nat) : Int := o.getD (m - 1) 0
theorem fal_at {l : List Int} (h : Fal l) {i j : Nat} (hij : i ≤ j) (hj : j < l.length) : l[j] ≤ l[i]'(by omega) := by
  by_cases e : i = j
  · subst e; exact Int.le_refl _
  · exact List.pairwise_iff_getElem.mp h i j (by omega) hj (by omega)
theorem price_win {o : List Int} {x : Int} {m : Nat} (hf : Fal o) (hm : 1 ≤ m) (h0 : ∀ y ∈ o, 0 ≤ y) (hx : meets o m ≤ x) : (desc (x :: o)).getD m 0 = meets o m := by
  by_cases hl : m - 1 < o.length
  · have hv : Fal (desc (x :: o.take (m - 1)) ++ o.drop (m - 1)) := by
      refine List.pairwise_append.mpr ⟨desc_fal _, hf.sublist (List.drop_sublist ..), fun a ha b hb => ?_⟩
      have ha := (desc_perm _).mem_iff.mp ha
      obtain ⟨j, hj, rfl⟩ := List.getElem_of_mem hb
      have hj' : m - 1 + j < o.length := by rw [List.length_drop] at hj; omega
      rw [List.getElem_drop]
      rcases List.mem_cons.mp ha with rfl | ha
      · have h1 := fal_at hf (i := m - 1) (j := m - 1 + j) (by omega) hj'
        have h2 : meets o m = o[m - 1] := by simp [meets, List.getD_eq_getElem?_getD, hl]
        show o[m - 1 + j] ≤ a
        omega
      · obtain ⟨i, hi, rfl⟩ := List.getElem_of_mem ha
        have hi' : i < m - 1 := by rw [List.length_take] at hi; omega
        rw [List.getElem_take]
        exact fal_at hf (by omega) hj'
    have hp : (x :: o).Perm (desc (x :: o.take (m - 1)) ++ o.drop (m - 1)) := by
      have h1 := (desc_perm (x :: o.take (m - 1))).append_right (o.drop (m - 1))
      refine List.Perm.trans (List.Perm.of_eq ?_) h1.symm
      rw [List.cons_append, List.take_append_drop]
    rw [desc_of_perm hp, desc_of_fal hv]
    have hlen : (desc (x :: o.take (m - 1))).length = m := by rw [desc_len, List.length_cons, List.length_take]; omega
    simp only [List.getD_eq_getElem?_getD, meets]
    rw [List.getElem?_append_right (by omega), hlen, List.getElem?_drop]
    simp
  · have h1 : (desc (x :: o)).length ≤ m := by rw [desc_len, List.length_cons]; omega
    simp only [List.getD_eq_getElem?_getD, meets]
    rw [List.getElem?_eq_none h1, List.getElem?_eq_none (by omega)]
/-- those ahead of k -/
def isAhead (w : List Int) (k t : Nat) : Bool := decide (w.getD k 0 < w.getD t 0) || (decide (w.getD t 0 = w.getD k 0) && decide (t < k))
def ahead (w : List Int) (k : Nat) : List Nat := (List.range w.length).filter fun t => isAhead w k t
theorem count_idx (q : Int → Bool) : ∀ l : List Int, ((List.range l.length).filter fun t => q (l.getD t 0)).length = l.countP q
  | [] => rfl
  | x :: l => by
    rw [List.length_cons, List.range_succ_eq_map, List.filter_cons, List.countP_cons, ← count_idx q l, List.filter_map]
    have e : ((fun t => q ((x :: l).getD t 0)) ∘ Nat.succ) = fun t => q (l.getD t 0) := by funext t; simp
    rw [e]
    by_cases h : q x = true
    · simp [h]
    · simp [h]
theorem filter_len_le {α : Type} {p q : α → Bool} : ∀ l : List α, (∀ x ∈ l, p x = true → q x = true) → (l.filter p).length ≤ (l.filter q).length
  | [], _ => Nat.le_refl _
  | x :: l, h => by
    have ih := filter_len_le l fun y hy => h y (List.mem_cons_of_mem _ hy)
    have hx := h x (List.mem_cons_self ..)
    rw [List.filter_cons, List.filter_cons]
    by_cases a : p x = true
    · rw [if_pos a, if_pos (hx a)]; simpa using ih
    · rw [if_neg a]
      split
      · simp; omega
      · exact ih
theorem filter_two {α : Type} {p r q : α → Bool} : ∀ l : List α, (∀ x ∈ l, p x = true → r x = true → False) → (∀ x ∈ l, p x = true → q x = true) → (∀ x ∈ l, r x = true → q x = true) → (l.filter p).length + (l.filter r).length ≤ (l.filter q).length
  | [], _, _, _ => Nat.le_refl _
  | x :: l, h1, h2, h3 => by
    have ih := filter_two l (fun y hy => h1 y (List.mem_cons_of_mem _ hy)) (fun y hy => h2 y (List.mem_cons_of_mem _ hy)) (fun y hy => h3 y (List.mem_cons_of_mem _ hy))
    have g1 := h1 x (List.mem_cons_self ..)
    have g2 := h2 x (List.mem_cons_self ..)
    have g3 := h3 x (List.mem_cons_self ..)
    rw [List.filter_cons, List.filter_cons, List.filter_cons]
    by_cases a : p x = true
    · by_cases b : r x = true
      · exact (g1 a b).elim
      · rw [if_pos a, if_neg b, if_pos (g2 a)]; simp; omega
    · rw [if_neg a]
      by_cases b : r x = true
      · rw [if_pos b, if_pos (g3 b)]; simp; omega
      · rw [if_neg b]
        split
        · simp; omega
        · exact ih
theorem count_top {o : List Int} (hf : Fal o) {x : Int} {i : Nat} (hi : i < o.length) (h : x < o[i]) : i + 1 ≤ o.countP fun y => decide (x < y) := by
  have h1 : (o.take (i + 1)).countP (fun y => decide (x < y)) = i + 1 := by
    have : (o.take (i + 1)).countP (fun y => decide (x < y)) = (o.take (i + 1)).length := by
      refine List.countP_eq_length.mpr fun y hy => ?_
      obtain ⟨j, hj, rfl⟩ := List.getElem_of_mem hy
      have hj' : j < i + 1 := by rw [List.length_take] at hj; omega
      rw [List.getElem_take]
      have := fal_at hf (i := j) (j := i) (by omega) hi
      exact decide_eq_true (by omega)
    rw [this, List.length_take]; omega
  have h2 : o.countP (fun y => decide (x < y)) = (o.take (i + 1)).countP (fun y => decide (x < y)) + (o.drop (i + 1)).countP (fun y => decide (x < y)) := by
    rw [← List.countP_append, List.take_append_drop]
  omega
theorem count_low {o : List Int} (hf : Fal o) {x : Int} {i : Nat} (h : ∀ hi : i < o.length, o[i] < x) : o.countP (fun y => decide (x ≤ y)) ≤ i := by
  have h2 : o.countP (fun y => decide (x ≤ y)) = (o.take i).countP (fun y => decide (x ≤ y)) + (o.drop i).countP (fun y => decide (x ≤ y)) := by
    rw [← List.countP_append, List.take_append_drop]
  have h3 : (o.drop i).countP (fun y => decide (x ≤ y)) = 0 := by
    refine List.countP_eq_zero.mpr fun y hy => ?_
    obtain ⟨j, hj, rfl⟩ := List.getElem_of_mem hy
    have hj' : i + j < o.length := by rw [List.length_drop] at hj; omega
    rw [List.getElem_drop]
    have h4 := fal_at hf (i := i) (j := i + j) (by omega) hj'
    have h5 := h (by omega)
    simp only [decide_eq_true_eq]
    omega
  have h4 : (o.take i).countP (fun y => decide (x ≤ y)) ≤ (o.take i).length := List.countP_le_length
  rw [List.length_take] at h4
  omega
section
variable {w : List Int} {k m : Nat}
theorem perm_out (hk : k < w.length) : w.Perm (w.getD k 0 :: desc (w.eraseIdx k)) := by
  have e : w.getD k 0 = w[k] := by simp [List.getD_eq_getElem?_getD, hk]
  rw [e]
  have h1 : (w[k] :: w.eraseIdx k).Perm w := by
    rw [List.eraseIdx_eq_take_drop_succ]
    refine List.perm_middle.symm.trans (List.Perm.of_eq ?_)
    rw [← List.drop_eq_getElem_cons hk, List.take_append_drop]
  exact h1.symm.trans ((desc_perm _).symm.cons _)
theorem win_ge (hk : k < w.length) (hm : 1 ≤ m) (h0 : ∀ y ∈ w, 0 ≤ y) (h : (ahead w k).length < m) : meets (desc (w.eraseIdx k)) m ≤ w.getD k 0 := by
  have hx : 0 ≤ w.getD k 0 := by
    have e : w.getD k 0 = w[k] := by simp [List.getD_eq_getElem?_getD, hk]
    rw [e]; exact h0 _ (List.getElem_mem hk)
  by_cases hl : m - 1 < (desc (w.eraseIdx k)).length
  · refine Int.not_lt.mp fun z => ?_
    have e : meets (desc (w.eraseIdx k)) m = (desc (w.eraseIdx k))[m - 1] := by simp [meets, List.getD_eq_getElem?_getD, hl]
    rw [e] at z
    have h1 := count_top (desc_fal _) hl z
    have h2 : (desc (w.eraseIdx k)).countP (fun y => decide (w.getD k 0 < y)) = w.countP (fun y => decide (w.getD k 0 < y)) := by
      rw [(perm_out hk).countP_eq, List.countP_cons]; simp
    have h3 := count_idx (fun y => decide (w.getD k 0 < y)) w
    have h4 : ((List.range w.length).filter fun t => decide (w.getD k 0 < w.getD t 0)).length ≤ (ahead w k).length := filter_len_le _ fun t _ ht => by
      unfold isAhead; rw [ht]; rfl
    omega
  · have e : meets (desc (w.eraseIdx k)) m = 0 := by simp only [meets, List.getD_eq_getElem?_getD]; rw [List.getElem?_eq_none (by omega)]; rfl
    omega
theorem lose_le (hk : k < w.length) (hm : 1 ≤ m) (h : m ≤ (ahead w k).length) : w.getD k 0 ≤ meets (desc (w.eraseIdx k)) m := by
  refine Int.not_lt.mp fun z => ?_
  have h1 : (desc (w.eraseIdx k)).countP (fun y => decide (w.getD k 0 ≤ y)) ≤ m - 1 := count_low (desc_fal _) fun hi => by
    have e : meets (desc (w.eraseIdx k)) m = (desc (w.eraseIdx k))[m - 1] := by simp [meets, List.getD_eq_getElem?_getD, hi]
    omega
  have h2 : w.countP (fun y => decide (w.getD k 0 ≤ y)) = (desc (w.eraseIdx k)).countP (fun y => decide (w.getD k 0 ≤ y)) + 1 := by
    rw [(perm_out hk).countP_eq, List.countP_cons]; simp
  have h3 := count_idx (fun y => decide (w.getD k 0 ≤ y)) w
  have h5 : 0 < ((List.range w.length).filter fun t => decide (t = k)).length := List.length_pos_of_mem (a := k) (List.mem_filter.mpr ⟨List.mem_range.mpr hk, by simp⟩)
  have h4 : (ahead w k).length + ((List.range w.length).filter fun t => decide (t = k)).length ≤ ((List.range w.length).filter fun t => decide (w.getD k 0 ≤ w.getD t 0)).length := by
    refine filter_two _ (fun t _ g1 g2 => ?_) (fun t _ g2 => ?_) fun t _ g2 => ?_
    · unfold isAhead at g1
      simp only [Bool.or_eq_true, Bool.and_eq_true, decide_eq_true_eq] at g1 g2
      subst g2
      omega
    · unfold isAhead at g2
      simp only [Bool.or_eq_true, Bool.and_eq_true, decide_eq_true_eq] at g2 ⊢
      omega
    · have : t = k := of_decide_eq_true g2
      subst this
      exact decide_eq_true (Int.le_refl _)
  omega
/-- what one wins, by its own worth a -/
def win (w : List Int) (m k : Nat) (a : Int) : Int := if (ahead w k).length < m then a - (desc w).getD m 0 else 0
theorem win_eq (hk : k < w.length) (hm : 1 ≤ m) (h0 : ∀ y ∈ w, 0 ≤ y) (a : Int) : win w m k a = if (ahead w k).length < m then a - meets (desc (w.eraseIdx k)) m else 0 := by
  unfold win
  split
  · rename_i h
    have hg := win_ge hk hm h0 h
    have e : desc w = desc (w.getD k 0 :: desc (w.eraseIdx k)) := desc_of_perm (perm_out hk)
    rw [e, price_win (desc_fal _) hm (fun y hy => h0 y (List.mem_of_mem_eraseIdx ((desc_perm _).mem_iff.mp hy))) hg]
  · rfl
/-- no lie gains -/
theorem no_lie {w' : List Int} (hk : k < w.length) (hk' : k < w'.length) (hm : 1 ≤ m) (h0 : ∀ y ∈ w, 0 ≤ y) (h0' : ∀ y ∈ w', 0 ≤ y) (he : w'.eraseIdx k = w.eraseIdx k) : win w' m k (w.getD k 0) ≤ win w m k (w.getD k 0) := by
  rw [win_eq hk' hm h0', win_eq hk hm h0, he]
  by_cases h1 : (ahead w k).length < m
  · have := win_ge hk hm h0 h1
    rw [if_pos h1]
    split <;> omega
  · have := lose_le hk hm (Nat.le_of_not_lt h1)
    rw [if_neg h1]
    split <;> omega
end
end K03M
/-! K03T: the tables of weights. -/
namespace K03M
open Pf LawC PySem
def bin : Nat → Nat → Nat
  | _, 0 => 1
  | 0, _ + 1 => 0
  | n + 1, k + 1 => bin n k + bin n (k + 1)
def tl (n i : Nat) : Int := ((List.range (n - i)).map fun t => (bin (n - 1) (i + t) : Int)).sum
def wM (n m i : Nat) : Int × Int := low ((if (i + m - 1) % 2 = 0 then 1 else -1) * ((n : Int) - m) * bin (n - 1) (m - 1) * tl n i) (i * tl n m * bin (n - 1) i)
def W (n m : Nat) (e : Bool) : List (Int × Int) := if n < m + 2 then [] else if e then low m n :: List.replicate (n - m - 2) (0, 1) else (List.range (n - m - 1)).map fun t => wM n m (m + 1 + t)
def LL (l : List (Int × Int)) : Int := l.foldr (fun p (r : Int) => (Int.lcm p.2 r : Int)) 1
def AA (l : List (Int × Int)) : List Int := l.map fun p => p.1 * (LL l / p.2)
def EE (n m : Nat) (l : List (Int × Int)) : List Int := match bl n 0 m (AA l) with
  | [] => []
  | b :: bs => (m * LL l - b) :: bs.map fun x => -x
/-- what the tables are asked -/
def tabA (n m : Nat) (e : Bool) : Bool := let l := W n m e
  l.all (fun p => decide (0 < p.2) && (decide (LL l % p.2 = 0) && (decide (p.1.natAbs < 2 ^ 40) && decide (low p.1 p.2 = p)))) && (decide (0 < LL l) && (decide (LL l < 2 ^ 40) && ((AA l).all (fun a => decide (a.natAbs < 2 ^ 60)) && (decide (l.length = n - m - 1) && nn 0 (AA l)))))
def tabE (n m : Nat) (e : Bool) : Bool := let l := W n m e
  decide (n < m + 2) || (nn 0 (EE n m l) && (if e then decide ((EE n m l).map ((n : Int) * ·) = ((m * (m + 1) * LL l : Int) :: (-(m * (m + 1) * LL l) : Int) :: List.replicate (n - m - 2) 0))
    else match EE n m l with
      | [] => false
      | x :: xs => nn 0 (((low (bin (n - 1) m) (max 1 (tl n m))).1 * (m * LL l) - (low (bin (n - 1) m) (max 1 (tl n m))).2 * x) :: xs.map fun y => -((low (bin (n - 1) m) (max 1 (tl n m))).2 * y))))
theorem tabA_all : ∀ n, n < 11 → ∀ m, m < 9 → 1 ≤ n → 1 ≤ m → tabA n m true = true ∧ tabA n m false = true := by decide +kernel
theorem tabE_all : ∀ n, n < 11 → ∀ m, m < 9 → 1 ≤ n → 1 ≤ m → tabE n m true = true ∧ tabE n m false = true := by decide +kernel
def wtOf : Res PyData → Option (List (Int × Int))
  | .ok (.list ds) => ds.mapM fun d => match d with
    | .tuple [.int a, .int b] => some (a, b)
    | _ => none
  | _ => none
def wd (e : Bool) : Str := if e then "even" else "most"
def pw (n m : Nat) (e : Bool) : Bool := decide (wtOf (K03.m_weights_in [.int (n : Nat), .int (m : Nat), .str (wd e)]) = some (W n m e))
theorem prog_w : ∀ n, n < 11 → ∀ m, m < 9 → 1 ≤ n → 1 ≤ m → pw n m true = true ∧ pw n m false = true := by decide +kernel
def lw (n m : Nat) (e : Bool) : Bool := decide (wtOf (K03.m__law_weights [.int (n : Nat), .int (m : Nat), .str (wd e)]) = some (W n m e))
theorem lw_1_1 : lw 1 1 true = true ∧ lw 1 1 false = true := ⟨by decide +kernel, by decide +kernel⟩
theorem lw_1_2 : lw 1 2 true = true ∧ lw 1 2 false = true := ⟨by decide +kernel, by decide +kernel⟩
theorem lw_1_3 : lw 1 3 true = true ∧ lw 1 3 false = true := ⟨by decide +kernel, by decide +kernel⟩
theorem lw_1_4 : lw 1 4 true = true ∧ lw 1 4 false = true := ⟨by decide +kernel, by decide +kernel⟩
theorem lw_1_5 : lw 1 5 true = true ∧ lw 1 5 false = true := ⟨by decide +kernel, by decide +kernel⟩
theorem lw_1_6 : lw 1 6 true = true ∧ lw 1 6 false = true := ⟨by decide +kernel, by decide +kernel⟩
theorem lw_1_7 : lw 1 7 true = true ∧ lw 1 7 false = true := ⟨by decide +kernel, by decide +kernel⟩
theorem lw_1_8 : lw 1 8 true = true ∧ lw 1 8 false = true := ⟨by decide +kernel, by decide +kernel⟩
theorem lw_2_1 : lw 2 1 true = true ∧ lw 2 1 false = true := ⟨by decide +kernel, by decide +kernel⟩
theorem lw_2_2 : lw 2 2 true = true ∧ lw 2 2 false = true := ⟨by decide +kernel, by decide +kernel⟩
theorem lw_2_3 : lw 2 3 true = true ∧ lw 2 3 false = true := ⟨by decide +kernel, by decide +kernel⟩
theorem lw_2_4 : lw 2 4 true = true ∧ lw 2 4 false = true := ⟨by decide +kernel, by decide +kernel⟩
theorem lw_2_5 : lw 2 5 true = true ∧ lw 2 5 false = true := ⟨by decide +kernel, by decide +kernel⟩
theorem lw_2_6 : lw 2 6 true = true ∧ lw 2 6 false = true := ⟨by decide +kernel, by decide +kernel⟩
theorem lw_2_7 : lw 2 7 true = true ∧ lw 2 7 false = true := ⟨by decide +kernel, by decide +kernel⟩
theorem lw_2_8 : lw 2 8 true = true ∧ lw 2 8 false = true := ⟨by decide +kernel, by decide +kernel⟩
theorem lw_3_1 : lw 3 1 true = true ∧ lw 3 1 false = true := ⟨by decide +kernel, by decide +kernel⟩
theorem lw_3_2 : lw 3 2 true = true ∧ lw 3 2 false = true := ⟨by decide +kernel, by decide +kernel⟩
theorem lw_3_3 : lw 3 3 true = true ∧ lw 3 3 false = true := ⟨by decide +kernel, by decide +kernel⟩
theorem lw_3_4 : lw 3 4 true = true ∧ lw 3 4 false = true := ⟨by decide +kernel, by decide +kernel⟩
theorem lw_3_5 : lw 3 5 true = true ∧ lw 3 5 false = true := ⟨by decide +kernel, by decide +kernel⟩
theorem lw_3_6 : lw 3 6 true = true ∧ lw 3 6 false = true := ⟨by decide +kernel, by decide +kernel⟩
theorem lw_3_7 : lw 3 7 true = true ∧ lw 3 7 false = true := ⟨by decide +kernel, by decide +kernel⟩
theorem lw_3_8 : lw 3 8 true = true ∧ lw 3 8 false = true := ⟨by decide +kernel, by decide +kernel⟩
theorem lw_4_1 : lw 4 1 true = true ∧ lw 4 1 false = true := ⟨by decide +kernel, by decide +kernel⟩
theorem lw_4_2 : lw 4 2 true = true ∧ lw 4 2 false = true := ⟨by decide +kernel, by decide +kernel⟩
theorem lw_4_3 : lw 4 3 true = true ∧ lw 4 3 false = true := ⟨by decide +kernel, by decide +kernel⟩
theorem lw_4_4 : lw 4 4 true = true ∧ lw 4 4 false = true := ⟨by decide +kernel, by decide +kernel⟩
theorem lw_4_5 : lw 4 5 true = true ∧ lw 4 5 false = true := ⟨by decide +kernel, by decide +kernel⟩
theorem lw_4_6 : lw 4 6 true = true ∧ lw 4 6 false = true := ⟨by decide +kernel, by decide +kernel⟩
theorem lw_4_7 : lw 4 7 true = true ∧ lw 4 7 false = true := ⟨by decide +kernel, by decide +kernel⟩
theorem lw_4_8 : lw 4 8 true = true ∧ lw 4 8 false = true := ⟨by decide +kernel, by decide +kernel⟩
theorem lw_5_1 : lw 5 1 true = true ∧ lw 5 1 false = true := ⟨by decide +kernel, by decide +kernel⟩
theorem lw_5_2 : lw 5 2 true = true ∧ lw 5 2 false = true := ⟨by decide +kernel, by decide +kernel⟩
theorem lw_5_3 : lw 5 3 true = true ∧ lw 5 3 false = true := ⟨by decide +kernel, by decide +kernel⟩
theorem lw_5_4 : lw 5 4 true = true ∧ lw 5 4 false = true := ⟨by decide +kernel, by decide +kernel⟩
theorem lw_5_5 : lw 5 5 true = true ∧ lw 5 5 false = true := ⟨by decide +kernel, by decide +kernel⟩
theorem lw_5_6 : lw 5 6 true = true ∧ lw 5 6 false = true := ⟨by decide +kernel, by decide +kernel⟩
theorem lw_5_7 : lw 5 7 true = true ∧ lw 5 7 false = true := ⟨by decide +kernel, by decide +kernel⟩
theorem lw_5_8 : lw 5 8 true = true ∧ lw 5 8 false = true := ⟨by decide +kernel, by decide +kernel⟩
theorem lw_6_1 : lw 6 1 true = true ∧ lw 6 1 false = true := ⟨by decide +kernel, by decide +kernel⟩
theorem lw_6_2 : lw 6 2 true = true ∧ lw 6 2 false = true := ⟨by decide +kernel, by decide +kernel⟩
theorem lw_6_3 : lw 6 3 true = true ∧ lw 6 3 false = true := ⟨by decide +kernel, by decide +kernel⟩
theorem lw_6_4 : lw 6 4 true = true ∧ lw 6 4 false = true := ⟨by decide +kernel, by decide +kernel⟩
theorem lw_6_5 : lw 6 5 true = true ∧ lw 6 5 false = true := ⟨by decide +kernel, by decide +kernel⟩
theorem lw_6_6 : lw 6 6 true = true ∧ lw 6 6 false = true := ⟨by decide +kernel, by decide +kernel⟩
theorem lw_6_7 : lw 6 7 true = true ∧ lw 6 7 false = true := ⟨by decide +kernel, by decide +kernel⟩
theorem lw_6_8 : lw 6 8 true = true ∧ lw 6 8 false = true := ⟨by decide +kernel, by decide +kernel⟩
theorem lw_7_1 : lw 7 1 true = true ∧ lw 7 1 false = true := ⟨by decide +kernel, by decide +kernel⟩
theorem lw_7_2 : lw 7 2 true = true ∧ lw 7 2 false = true := ⟨by decide +kernel, by decide +kernel⟩
theorem lw_7_3 : lw 7 3 true = true ∧ lw 7 3 false = true := ⟨by decide +kernel, by decide +kernel⟩
theorem lw_7_4 : lw 7 4 true = true ∧ lw 7 4 false = true := ⟨by decide +kernel, by decide +kernel⟩
theorem lw_7_5 : lw 7 5 true = true ∧ lw 7 5 false = true := ⟨by decide +kernel, by decide +kernel⟩
theorem lw_7_6 : lw 7 6 true = true ∧ lw 7 6 false = true := ⟨by decide +kernel, by decide +kernel⟩
theorem lw_7_7 : lw 7 7 true = true ∧ lw 7 7 false = true := ⟨by decide +kernel, by decide +kernel⟩
theorem lw_7_8 : lw 7 8 true = true ∧ lw 7 8 false = true := ⟨by decide +kernel, by decide +kernel⟩
theorem lw_8_1 : lw 8 1 true = true ∧ lw 8 1 false = true := ⟨by decide +kernel, by decide +kernel⟩
theorem lw_8_2 : lw 8 2 true = true ∧ lw 8 2 false = true := ⟨by decide +kernel, by decide +kernel⟩
theorem lw_8_3 : lw 8 3 true = true ∧ lw 8 3 false = true := ⟨by decide +kernel, by decide +kernel⟩
theorem lw_8_4 : lw 8 4 true = true ∧ lw 8 4 false = true := ⟨by decide +kernel, by decide +kernel⟩
theorem lw_8_5 : lw 8 5 true = true ∧ lw 8 5 false = true := ⟨by decide +kernel, by decide +kernel⟩
theorem lw_8_6 : lw 8 6 true = true ∧ lw 8 6 false = true := ⟨by decide +kernel, by decide +kernel⟩
theorem lw_8_7 : lw 8 7 true = true ∧ lw 8 7 false = true := ⟨by decide +kernel, by decide +kernel⟩
theorem lw_8_8 : lw 8 8 true = true ∧ lw 8 8 false = true := ⟨by decide +kernel, by decide +kernel⟩
theorem lw_9_1 : lw 9 1 true = true ∧ lw 9 1 false = true := ⟨by decide +kernel, by decide +kernel⟩
theorem lw_9_2 : lw 9 2 true = true ∧ lw 9 2 false = true := ⟨by decide +kernel, by decide +kernel⟩
theorem lw_9_3 : lw 9 3 true = true ∧ lw 9 3 false = true := ⟨by decide +kernel, by decide +kernel⟩
theorem lw_9_4 : lw 9 4 true = true ∧ lw 9 4 false = true := ⟨by decide +kernel, by decide +kernel⟩
theorem lw_9_5 : lw 9 5 true = true ∧ lw 9 5 false = true := ⟨by decide +kernel, by decide +kernel⟩
theorem lw_9_6 : lw 9 6 true = true ∧ lw 9 6 false = true := ⟨by decide +kernel, by decide +kernel⟩
theorem lw_9_7 : lw 9 7 true = true ∧ lw 9 7 false = true := ⟨by decide +kernel, by decide +kernel⟩
theorem lw_9_8 : lw 9 8 true = true ∧ lw 9 8 false = true := ⟨by decide +kernel, by decide +kernel⟩
theorem lw_10_1 : lw 10 1 true = true ∧ lw 10 1 false = true := ⟨by decide +kernel, by decide +kernel⟩
theorem lw_10_2 : lw 10 2 true = true ∧ lw 10 2 false = true := ⟨by decide +kernel, by decide +kernel⟩
theorem lw_10_3 : lw 10 3 true = true ∧ lw 10 3 false = true := ⟨by decide +kernel, by decide +kernel⟩
theorem lw_10_4 : lw 10 4 true = true ∧ lw 10 4 false = true := ⟨by decide +kernel, by decide +kernel⟩
theorem lw_10_5 : lw 10 5 true = true ∧ lw 10 5 false = true := ⟨by decide +kernel, by decide +kernel⟩
theorem lw_10_6 : lw 10 6 true = true ∧ lw 10 6 false = true := ⟨by decide +kernel, by decide +kernel⟩
theorem lw_10_7 : lw 10 7 true = true ∧ lw 10 7 false = true := ⟨by decide +kernel, by decide +kernel⟩
theorem lw_10_8 : lw 10 8 true = true ∧ lw 10 8 false = true := ⟨by decide +kernel, by decide +kernel⟩
theorem lw_1 (m : Nat) (h1 : 1 ≤ m) (h2 : m < 9) : lw 1 m true = true ∧ lw 1 m false = true := by
  rcases (by omega : m = 1 ∨ m = 2 ∨ m = 3 ∨ m = 4 ∨ m = 5 ∨ m = 6 ∨ m = 7 ∨ m = 8) with rfl | rfl | rfl | rfl | rfl | rfl | rfl | rfl
  · exact lw_1_1
  · exact lw_1_2
  · exact lw_1_3
  · exact lw_1_4
  · exact lw_1_5
  · exact lw_1_6
  · exact lw_1_7
  · exact lw_1_8
theorem lw_2 (m : Nat) (h1 : 1 ≤ m) (h2 : m < 9) : lw 2 m true = true ∧ lw 2 m false = true := by
  rcases (by omega : m = 1 ∨ m = 2 ∨ m = 3 ∨ m = 4 ∨ m = 5 ∨ m = 6 ∨ m = 7 ∨ m = 8) with rfl | rfl | rfl | rfl | rfl | rfl | rfl | rfl
  · exact lw_2_1
  · exact lw_2_2
  · exact lw_2_3
  · exact lw_2_4
  · exact lw_2_5
  · exact lw_2_6
  · exact lw_2_7
  · exact lw_2_8
theorem lw_3 (m : Nat) (h1 : 1 ≤ m) (h2 : m < 9) : lw 3 m true = true ∧ lw 3 m false = true := by
  rcases (by omega : m = 1 ∨ m = 2 ∨ m = 3 ∨ m = 4 ∨ m = 5 ∨ m = 6 ∨ m = 7 ∨ m = 8) with rfl | rfl | rfl | rfl | rfl | rfl | rfl | rfl
  · exact lw_3_1
  · exact lw_3_2
  · exact lw_3_3
  · exact lw_3_4
  · exact lw_3_5
  · exact lw_3_6
  · exact lw_3_7
  · exact lw_3_8
theorem lw_4 (m : Nat) (h1 : 1 ≤ m) (h2 : m < 9) : lw 4 m true = true ∧ lw 4 m false = true := by
  rcases (by omega : m = 1 ∨ m = 2 ∨ m = 3 ∨ m = 4 ∨ m = 5 ∨ m = 6 ∨ m = 7 ∨ m = 8) with rfl | rfl | rfl | rfl | rfl | rfl | rfl | rfl
  · exact lw_4_1
  · exact lw_4_2
  · exact lw_4_3
  · exact lw_4_4
  · exact lw_4_5
  · exact lw_4_6
  · exact lw_4_7
  · exact lw_4_8
theorem lw_5 (m : Nat) (h1 : 1 ≤ m) (h2 : m < 9) : lw 5 m true = true ∧ lw 5 m false = true := by
  rcases (by omega : m = 1 ∨ m = 2 ∨ m = 3 ∨ m = 4 ∨ m = 5 ∨ m = 6 ∨ m = 7 ∨ m = 8) with rfl | rfl | rfl | rfl | rfl | rfl | rfl | rfl
  · exact lw_5_1
  · exact lw_5_2
  · exact lw_5_3
  · exact lw_5_4
  · exact lw_5_5
  · exact lw_5_6
  · exact lw_5_7
  · exact lw_5_8
theorem lw_6 (m : Nat) (h1 : 1 ≤ m) (h2 : m < 9) : lw 6 m true = true ∧ lw 6 m false = true := by
  rcases (by omega : m = 1 ∨ m = 2 ∨ m = 3 ∨ m = 4 ∨ m = 5 ∨ m = 6 ∨ m = 7 ∨ m = 8) with rfl | rfl | rfl | rfl | rfl | rfl | rfl | rfl
  · exact lw_6_1
  · exact lw_6_2
  · exact lw_6_3
  · exact lw_6_4
  · exact lw_6_5
  · exact lw_6_6
  · exact lw_6_7
  · exact lw_6_8
theorem lw_7 (m : Nat) (h1 : 1 ≤ m) (h2 : m < 9) : lw 7 m true = true ∧ lw 7 m false = true := by
  rcases (by omega : m = 1 ∨ m = 2 ∨ m = 3 ∨ m = 4 ∨ m = 5 ∨ m = 6 ∨ m = 7 ∨ m = 8) with rfl | rfl | rfl | rfl | rfl | rfl | rfl | rfl
  · exact lw_7_1
  · exact lw_7_2
  · exact lw_7_3
  · exact lw_7_4
  · exact lw_7_5
  · exact lw_7_6
  · exact lw_7_7
  · exact lw_7_8
theorem lw_8 (m : Nat) (h1 : 1 ≤ m) (h2 : m < 9) : lw 8 m true = true ∧ lw 8 m false = true := by
  rcases (by omega : m = 1 ∨ m = 2 ∨ m = 3 ∨ m = 4 ∨ m = 5 ∨ m = 6 ∨ m = 7 ∨ m = 8) with rfl | rfl | rfl | rfl | rfl | rfl | rfl | rfl
  · exact lw_8_1
  · exact lw_8_2
  · exact lw_8_3
  · exact lw_8_4
  · exact lw_8_5
  · exact lw_8_6
  · exact lw_8_7
  · exact lw_8_8
theorem lw_9 (m : Nat) (h1 : 1 ≤ m) (h2 : m < 9) : lw 9 m true = true ∧ lw 9 m false = true := by
  rcases (by omega : m = 1 ∨ m = 2 ∨ m = 3 ∨ m = 4 ∨ m = 5 ∨ m = 6 ∨ m = 7 ∨ m = 8) with rfl | rfl | rfl | rfl | rfl | rfl | rfl | rfl
  · exact lw_9_1
  · exact lw_9_2
  · exact lw_9_3
  · exact lw_9_4
  · exact lw_9_5
  · exact lw_9_6
  · exact lw_9_7
  · exact lw_9_8
theorem lw_10 (m : Nat) (h1 : 1 ≤ m) (h2 : m < 9) : lw 10 m true = true ∧ lw 10 m false = true := by
  rcases (by omega : m = 1 ∨ m = 2 ∨ m = 3 ∨ m = 4 ∨ m = 5 ∨ m = 6 ∨ m = 7 ∨ m = 8) with rfl | rfl | rfl | rfl | rfl | rfl | rfl | rfl
  · exact lw_10_1
  · exact lw_10_2
  · exact lw_10_3
  · exact lw_10_4
  · exact lw_10_5
  · exact lw_10_6
  · exact lw_10_7
  · exact lw_10_8
theorem law_w (n : Nat) (g1 : 1 ≤ n) (g2 : n < 11) (m : Nat) (h1 : 1 ≤ m) (h2 : m < 9) : lw n m true = true ∧ lw n m false = true := by
  rcases (by omega : n = 1 ∨ n = 2 ∨ n = 3 ∨ n = 4 ∨ n = 5 ∨ n = 6 ∨ n = 7 ∨ n = 8 ∨ n = 9 ∨ n = 10) with rfl | rfl | rfl | rfl | rfl | rfl | rfl | rfl | rfl | rfl
  · exact lw_1 m h1 h2
  · exact lw_2 m h1 h2
  · exact lw_3 m h1 h2
  · exact lw_4 m h1 h2
  · exact lw_5 m h1 h2
  · exact lw_6 m h1 h2
  · exact lw_7 m h1 h2
  · exact lw_8 m h1 h2
  · exact lw_9 m h1 h2
  · exact lw_10 m h1 h2
def sw (n k : Nat) : Bool := match K03.m__law_sets [.int (n : Nat), .int (k : Nat)] with
  | .ok (.int i) => i == bin n k
  | _ => false
theorem law_s : ∀ n, n < 10 → ∀ k, k < 11 → sw n k = true := by decide +kernel
theorem wtOf_ok {r : Res PyData} {l : List (Int × Int)} (h : wtOf r = some l) : r = .ok (.list (l.map frD)) := by
  cases r with
  | ok d =>
    cases d with
    | list ds =>
      have h : (ds.mapM fun d => match d with
        | .tuple [.int a, .int b] => some (a, b)
        | _ => none) = some l := h
      have key : ∀ (ds : List PyData) (l : List (Int × Int)), (ds.mapM fun d => match d with
        | .tuple [.int a, .int b] => some (a, b)
        | _ => none) = some l → ds = l.map frD := by
        intro ds
        induction ds with
        | nil => intro l h; simp at h; subst h; rfl
        | cons d ds ih =>
          intro l h
          simp only [List.mapM_cons, Option.pure_def, Option.bind_eq_bind, Option.bind_eq_some_iff, Option.some.injEq] at h
          obtain ⟨p, hp, l', hl, rfl⟩ := h
          rw [List.map_cons, ← ih l' hl]
          congr 1
          split at hp
          · cases hp; rfl
          · cases hp
      rw [key ds l h]
    | _ => cases h
  | exc _ _ => cases h
  | bad => cases h
end K03M
/-! K03P: what the mirrors tell. -/
namespace K03
open PySem PySem.Spec PyProof.Rows L2 Pf LawC K03M
theorem e_draws : m__law_draws = LawC.m__law_draws := Eq.trans rfl rfl
theorem e_mix : m__law_mix = LawC.m__law_mix := Eq.trans rfl rfl
theorem e_common : m_common = LawC.m_common := Eq.trans rfl rfl
theorem e_low : m__law_low = LawC.m__law_low := Eq.trans rfl rfl
theorem e_add : m__law_add = LawC.m__law_add := Eq.trans rfl rfl
theorem e_times : m__law_times = LawC.m__law_times := Eq.trans rfl rfl
theorem e_sum : m__law_sum = LawC.m__law_sum := Eq.trans rfl rfl
theorem chain_le (a b c : Int) (ρ : Ro) (f g h : Ro → Res PyData) (hf : f ρ = .ok (.int a)) (hg : g ρ = .ok (.int b)) (hh : h ρ = .ok (.int c)) : eChain leD leD f g h ρ = .ok (decide (a ≤ b) && decide (b ≤ c)) := by
  simp [hf, hg, hh]
  by_cases e : a ≤ b <;> simp [e]
theorem chain_lt (a b c : Int) (ρ : Ro) (f g h : Ro → Res PyData) (hf : f ρ = .ok (.int a)) (hg : g ρ = .ok (.int b)) (hh : h ρ = .ok (.int c)) : eChain leD ltD f g h ρ = .ok (decide (a ≤ b) && decide (b < c)) := by
  simp [hf, hg, hh]
  by_cases e : a ≤ b <;> simp [e]
theorem plain3_ok (n d : Int) (hd : 0 < d) (hb : d < 2 ^ 200) : m_plain [.int n, .int d] = .ok (frD (low n d)) := by
  have hc := common_ok n d (natAbs_small (by omega) hb)
  have hg := gcd_pos (n := n) hd
  have hl : (Int.gcd n d : Int).natAbs.log2 < 9000 := by
    have := gcd_le (n := n) hd
    exact Nat.lt_of_lt_of_le (log_lt (natAbs_small (by omega) (Int.lt_of_le_of_lt this hb)) (by decide)) (by decide)
  simp [m_plain, e_common, hc, divD_int hg hl, frD, low]
@[simp] theorem intsO_map (ns : List Int) : intsO (ns.map .int) = some ns := by
  induction ns with
  | nil => rfl
  | cons n ns ih => simp [intsO, ih]
@[simp] theorem sortedN_ints (ns : List Int) : sortedN [.list (ns.map .int)] = some ((sortI ns).map .int) := by simp [sortedN]
@[simp] theorem revL_list (xs : List PyData) : revL (.list xs) = some xs.reverse := rfl
theorem desc_map (ns : List Int) : ((sortI ns).map PyData.int).reverse = (desc ns).map .int := by simp [desc]
/-- what a book is -/
def Ws (ws : List Int) : Prop := 1 ≤ ws.length ∧ ws.length ≤ 10 ∧ ∀ y ∈ ws, 0 ≤ y ∧ y ≤ 1000000
theorem is_worth_ok (y : Int) : m_is_worth [.int y] = .ok (.bool (decide (0 ≤ y) && decide (y ≤ 1000000))) := by
  have hc := chain_le 0 y 1000000 [.val (.int y)] (eC (.int 0)) (eVarB 0) (eC (.int 1000000)) rfl rfl rfl
  show outR (sRet (eBool (eChain leD leD (eC (.int 0)) (eVarB 0) (eC (.int 1000000)))) [.val (.int y)]) = _
  rw [sRet_eq, eBool_eq, hc]
  rfl
theorem price_ok (ws : List Int) (m : Nat) : m_price_of [intsD ws, .int m] = .ok (.int ((desc ws).getD m 0)) := by
  have hl := desc_len ws
  by_cases h : m < ws.length
  · have h2 : (desc ws)[m]? = some (desc ws)[m] := List.getElem?_eq_getElem (by omega)
    simp [m_price_of, h, desc_map, Pf.atI_nat, List.getD_eq_getElem?_getD, h2]
  · have h2 : (desc ws)[m]? = none := List.getElem?_eq_none (by omega)
    simp [m_price_of, h, List.getD_eq_getElem?_getD, h2]
theorem addD_lists {xs ys : List PyData} (h : xs.length + ys.length ≤ 16777216) : addD (.list xs) (.list ys) = some (.list (xs ++ ys)) := by simp [addD, h]
theorem lprice_ok (ws : List Int) (hw : ws.length ≤ 10) (m : Nat) (hm : m < 9) : m__law_price [intsD ws, .int m] = .ok (.int ((desc ws).getD m 0)) := by
  have hl := desc_len ws
  obtain ⟨Z, hn, hZ⟩ : ∃ Z, mulD (.list [.int 0]) (.int 9) = some (.list Z) ∧ Z = List.replicate 9 (PyData.int 0) := ⟨_, rfl, rfl⟩
  have hzl : Z.length = 9 := by rw [hZ]; rfl
  have ha : addD (.list ((desc ws).map .int)) (.list Z) = some (.list ((desc ws).map .int ++ Z)) := addD_lists (by rw [hzl]; simp; omega)
  have hg : ((desc ws).map PyData.int ++ Z)[m]? = some (.int ((desc ws).getD m 0)) := by
    rw [hZ]
    by_cases h : m < ws.length
    · have h2 : (desc ws)[m]? = some (desc ws)[m] := List.getElem?_eq_getElem (by omega)
      rw [List.getElem?_append_left (by simp; omega), List.getElem?_map, h2]
      simp [List.getD_eq_getElem?_getD, h2]
    · have h2 : (desc ws)[m]? = none := List.getElem?_eq_none (by omega)
      rw [List.getElem?_append_right (by simp; omega), List.getElem?_replicate, if_pos (by simp; omega)]
      simp [List.getD_eq_getElem?_getD, h2]
  clear hZ
  simp [m__law_price, desc_map, hn, ha, Pf.atI_nat, hg]
theorem getD_bd {ws : List Int} (h : ∀ y ∈ ws, 0 ≤ y ∧ y ≤ 1000000) (m : Nat) : 0 ≤ (desc ws).getD m 0 ∧ (desc ws).getD m 0 ≤ 1000000 := by
  by_cases e : m < (desc ws).length
  · have : (desc ws).getD m 0 = (desc ws)[m] := by simp [List.getD_eq_getElem?_getD, e]
    rw [this]
    exact h _ ((desc_perm ws).mem_iff.mp (List.getElem_mem e))
  · have : (desc ws).getD m 0 = 0 := by simp only [List.getD_eq_getElem?_getD]; rw [List.getElem?_eq_none (by omega)]; rfl
    omega
theorem check_worths_ok {ws : List Int} (h : Ws ws) {m : Nat} (h1 : 1 ≤ m) (h2 : m ≤ 8) : m_check_worths [intsD ws, .int m] = .ok .none := by
  obtain ⟨g1, g2, g3⟩ := h
  have hc := chain_le 1 ws.length 10 [.val (intsD ws), .val (.int m), .un, .un] (eC (.int 1)) (e1 lenD (eCons (eVarB 0) eNil)) (eC (.int 10)) rfl (by simp) rfl
  obtain ⟨ρ', hf, hi⟩ := forF_inv (g := gUnp (gsCons (gSet 2) (gsCons (gSet 3) gsNil))) (b := sIf (eNot (eTb (eCall m_is_worth (eCons (eVar 3) (eNil))))) (sRaise "BadWorths" (eVarB 2)) (sPass))
    (fun _ ρ => ρ[1]? = some (.val (.int m)) ∧ ρ.length = 4) (((ws.map PyData.int).zipIdx).map fun p => .tuple [.int (p.2 : Nat), p.1]) 0 [.val (intsD ws), .val (.int m), .un, .un] ⟨rfl, rfl⟩ fun j d ρ hd ⟨i1, i2⟩ => by
      rw [List.getElem?_map, List.getElem?_zipIdx, List.getElem?_map] at hd
      cases e : ws[j]? with
      | none => rw [e] at hd; cases hd
      | some y =>
        rw [e] at hd
        simp at hd
        subst hd
        obtain ⟨b1, b2⟩ := g3 y (List.mem_of_getElem? e)
        refine ⟨(ρ.set 2 (.val (.int j))).set 3 (.val (.int y)), (ρ.set 2 (.val (.int j))).set 3 (.val (.int y)), rfl, .inl ?_, ?_, by simp [i2]⟩
        · have e3 : eVar 3 ((ρ.set 2 (.val (.int j))).set 3 (.val (.int y))) = .ok (.int y) := eVar_val (by rw [List.getElem?_set_self (by simp; omega)])
          simp [e3, is_worth_ok, b1, b2, eTb]
        · rw [List.getElem?_set_ne (by decide), List.getElem?_set_ne (by decide)]; exact i1
  have hc2 := chain_le 1 m 8 ρ' (eC (.int 1)) (eVarB 1) (eC (.int 8)) rfl (eVarB_val hi.1) rfl
  have d1 : (decide ((1 : Int) ≤ ws.length) && decide ((ws.length : Int) ≤ 10)) = true := by simp; omega
  have d2 : (decide ((1 : Int) ≤ m) && decide ((m : Int) ≤ 8)) = true := by simp; omega
  rw [d1] at hc
  rw [d2] at hc2
  have e0 : m_check_worths [intsD ws, .int m] = outR ((sSeq (sIf (eNot (eChain leD leD (eC (.int 1)) (e1 lenD (eCons (eVarB 0) eNil)) (eC (.int 10))))
      (sRaise "BadBook" (e1 lenD (eCons (eVarB 0) eNil))) (sPass))
      (sSeq (sFor (e1 enumL (eCons (eVar 0) eNil)) (gUnp (gsCons (gSet 2) (gsCons (gSet 3) (gsNil))))
      (sIf (eNot (eTb (eCall m_is_worth (eCons (eVar 3) (eNil))))) (sRaise "BadWorths" (eVarB 2)) (sPass)))
      (sIf (eNot (eChain leD leD (eC (.int 1)) (eVarB 1) (eC (.int 8)))) (sRaise "BadPieces" (eVarB 1)) (sPass)))) [.val (intsD ws), .val (.int m), .un, .un]) := rfl
  rw [e0, sSeq_eq, sIf_eq, eNot_eq, hc]
  have hen : e1 enumL (eCons (eVar 0) eNil) ([.val (intsD ws), .val (.int m), .un, .un] : Ro) = .ok (((ws.map PyData.int).zipIdx).map fun p => .tuple [.int (p.2 : Nat), p.1]) := rfl
  simp only [Res.bind_ok, Res.out_ok, Bool.not_true, Bool.false_eq_true, if_false, sPass_eq, Out.seq_nx, sSeq_eq, sFor_eq, hen, hf, sIf_eq, eNot_eq, hc2, outR_nx]
def noneR : Res PyData → Bool
  | .ok .none => true
  | _ => false
theorem noneR_ok {r : Res PyData} (h : noneR r = true) : r = .ok .none := by
  unfold noneR at h
  split at h
  · rfl
  · cases h
theorem check_word_ok (e : Bool) : m_check_word [.str (wd e)] = .ok .none := by
  cases e
  · exact noneR_ok (by decide +kernel)
  · exact noneR_ok (by decide +kernel)
theorem income_ok {ws : List Int} (h : Ws ws) {m : Nat} (h1 : 1 ≤ m) (h2 : m ≤ 8) : m_income_of [intsD ws, .int m] = .ok (.int ((desc ws).getD m 0 * min (m : Int) ws.length)) := by
  have o : okMul ((desc ws).getD m 0) (min (m : Int) ws.length) = true := by
    have b := getD_bd h.2.2 m
    have := h.2.1
    exact okMul_of (k := 40) (l := 40) (by omega) (by omega)
  have hi : m_income_in [intsD ws, .int m] = .ok (.int ((desc ws).getD m 0 * min (m : Int) ws.length)) := by
    have hp := price_ok ws m
    generalize (desc ws).getD m 0 = P at hp o ⊢
    simp [m_income_in, hp, mulD_int o]
  simp [m_income_of, check_worths_ok h h1 h2, hi]
end K03
/-! K03Q: what is given back. -/
namespace K03
open PySem PySem.Spec PyProof.Rows L2 Pf LawC K03M
/-- weights over one denominator -/
structure Good (l : List (Int × Int)) (L : Int) : Prop where
  pos : 0 < L
  small : L < 2 ^ 40
  at_ : ∀ p ∈ l, 0 < p.2 ∧ p.2 ≤ L ∧ (L / p.2) * p.2 = L ∧ p.1.natAbs < 2 ^ 40 ∧ (p.1 * (L / p.2)).natAbs < 2 ^ 60
/-- the sum of the weights' numerators times the worths -/
def wsum (L : Int) : List ((Int × Int) × Int) → Int
  | [] => 0
  | z :: zs => z.1.1 * (L / z.1.2) * z.2 + wsum L zs
theorem wsum_dot (L : Int) : ∀ (l : List (Int × Int)) (x : List Int), wsum L (l.zip x) = dot (l.map fun p => p.1 * (L / p.2)) x
  | [], _ => by simp [wsum, dot]
  | p :: l, [] => by simp [wsum, dot]
  | p :: l, y :: x => by
    rw [List.zip_cons_cons, List.map_cons, wsum, dot, wsum_dot L l x]
theorem step_low {L S a d y : Int} (hL : 0 < L) (hd : 0 < d) (hq : (L / d) * d = L) : low ((low S L).1 * d + a * y * (low S L).2) ((low S L).2 * d) = low (S + a * (L / d) * y) L := by
  obtain ⟨d1, _⟩ := low_den (n := S) hL
  have hv := low_val (n := S) hL
  refine low_eq (Int.mul_pos d1 hd) hL ?_
  generalize L / d = q at hq ⊢
  generalize (low S L).1 = s at hv ⊢
  generalize (low S L).2 = r at hv ⊢
  subst hq
  grind
theorem pow_mono {a : Nat} {i j : Nat} (h : a < 2 ^ i) (hij : i ≤ j) : a < 2 ^ j := Nat.lt_of_lt_of_le h (Nat.pow_le_pow_right (by decide) hij)
theorem step_plain {L S a d y : Int} (hL : 0 < L) (hL2 : L < 2 ^ 40) (hd : 0 < d) (hdL : d ≤ L) (hq : (L / d) * d = L) (ha : a.natAbs < 2 ^ 40) (hy : y.natAbs < 2 ^ 20) (hS : S.natAbs < 2 ^ 100) :
    okMul (low S L).1 d = true ∧ okMul a y = true ∧ okMul (a * y) (low S L).2 = true ∧ okMul (low S L).2 d = true ∧ m_plain [.int ((low S L).1 * d + a * y * (low S L).2), .int ((low S L).2 * d)] = .ok (frD (low (S + a * (L / d) * y) L)) := by
  obtain ⟨d1, d2⟩ := low_den (n := S) hL
  have hn := low_num (n := S) hL
  have hd3 : d.natAbs < 2 ^ 40 := by omega
  have hr : (low S L).2.natAbs < 2 ^ 40 := by omega
  have hay : (a * y).natAbs < 2 ^ 60 := by
    rw [Int.natAbs_mul]
    calc a.natAbs * y.natAbs < 2 ^ 40 * 2 ^ 20 := Nat.mul_lt_mul'' ha hy
      _ = 2 ^ 60 := by decide
  refine ⟨okMul_of (k := 100) (l := 40) (by omega) hd3, okMul_of ha hy, okMul_of hay hr, okMul_of hr hd3, ?_⟩
  rw [plain3_ok _ _ (Int.mul_pos d1 hd) ?_, step_low hL hd hq]
  have : (low S L).2 * d ≤ L * L := Int.mul_le_mul d2 hdL (by omega) (by omega)
  have : L * L ≤ 2 ^ 40 * 2 ^ 40 := Int.mul_le_mul (by omega) (by omega) (by omega) (by decide)
  have : (2 : Int) ^ 40 * 2 ^ 40 < 2 ^ 200 := by decide
  omega
theorem forF_nx {g : PyData → Ro → Option Ro} {b : Ro → Out} {d : PyData} {ds : List PyData} {ρ ρ1 ρ2 : Ro} (h1 : g d ρ = some ρ1) (h2 : b ρ1 = .nx ρ2) : forF g b (d :: ds) ρ = forF g b ds ρ2 := by
  conv => lhs; unfold forF
  rw [h1]
  simp [h2]
abbrev zD (z : (Int × Int) × Int) : PyData := .tuple [frD z.1, .int z.2]
theorem back_loop {L : Int} (hL : 0 < L) (hL2 : L < 2 ^ 40) : ∀ (zs : List ((Int × Int) × Int)) (S : Int) (ρ : Ro),
    (∀ z ∈ zs, 0 < z.1.2 ∧ z.1.2 ≤ L ∧ (L / z.1.2) * z.1.2 = L ∧ z.1.1.natAbs < 2 ^ 40 ∧ (z.1.1 * (L / z.1.2)).natAbs < 2 ^ 60 ∧ z.2.natAbs < 2 ^ 20) → S.natAbs + zs.length * 2 ^ 80 < 2 ^ 100 →
    ρ[5]? = some (.val (frD (low S L))) → ρ.length = 9 →
    ∃ ρ', forF (gUnp (gsCons (gUnp (gsCons (gSet 6) (gsCons (gSet 7) (gsNil)))) (gsCons (gSet 8) (gsNil)))) (sSet 5 (eCall m_plain (eCons (e2 addD (e2 mulD (e2 ixD (eVarB 5) (eC (.int 0))) (eVarB 7)) (e2 mulD (e2 mulD (eVarB 6) (eVarB 8)) (e2 ixD (eVarB 5) (eC (.int 1))))) (eCons (e2 mulD (e2 ixD (eVarB 5) (eC (.int 1))) (eVarB 7)) (eNil))))) (zs.map zD) ρ = .nx ρ' ∧ ρ'[5]? = some (.val (frD (low (S + wsum L zs) L)))
  | [], S, ρ, _, _, h5, _ => ⟨ρ, rfl, by simpa [wsum] using h5⟩
  | z :: zs, S, ρ, hz, hS, h5, hl => by
    obtain ⟨⟨a, d⟩, y⟩ := z
    obtain ⟨k1, k2, k3, k4, k5, k6⟩ := hz _ (List.mem_cons_self ..)
    have hS' : S.natAbs + (zs.length + 1) * 2 ^ 80 < 2 ^ 100 := by simpa using hS
    have hsm : (a * (L / d) * y).natAbs < 2 ^ 80 := by
      rw [Int.natAbs_mul]
      calc (a * (L / d)).natAbs * y.natAbs < 2 ^ 60 * 2 ^ 20 := Nat.mul_lt_mul'' k5 k6
        _ = 2 ^ 80 := by decide
    obtain ⟨o1, o2, o3, o4, hp⟩ := step_plain (a := a) (y := y) hL hL2 k1 k2 k3 k4 k6 (S := S) (by omega)
    have ρ1 : ∃ ρ1, ρ1 = ((ρ.set 6 (.val (.int a))).set 7 (.val (.int d))).set 8 (.val (.int y)) := ⟨_, rfl⟩
    obtain ⟨ρ1, e1⟩ := ρ1
    have v5 : eVarB 5 ρ1 = .ok (frD (low S L)) := eVarB_val (by rw [e1, List.getElem?_set_ne (by decide), List.getElem?_set_ne (by decide), List.getElem?_set_ne (by decide)]; exact h5)
    have v6 : eVarB 6 ρ1 = .ok (.int a) := eVarB_val (by rw [e1, List.getElem?_set_ne (by decide), List.getElem?_set_ne (by decide), List.getElem?_set_self (by omega)])
    have v7 : eVarB 7 ρ1 = .ok (.int d) := eVarB_val (by rw [e1, List.getElem?_set_ne (by decide), List.getElem?_set_self (by simp; omega)])
    have v8 : eVarB 8 ρ1 = .ok (.int y) := eVarB_val (by rw [e1, List.getElem?_set_self (by simp; omega)])
    have hlen1 : ρ1.length = 9 := by rw [e1]; simp [hl]
    obtain ⟨ρ', f1, f2⟩ := back_loop hL hL2 zs (S + a * (L / d) * y) (ρ1.set 5 (.val (frD (low (S + a * (L / d) * y) L)))) (fun w hw => hz w (List.mem_cons_of_mem _ hw)) (by omega)
      (by rw [List.getElem?_set_self (by omega)]) (by simp [hlen1])
    refine ⟨ρ', ?_, ?_⟩
    · rw [List.map_cons, forF_nx (ρ1 := ρ1) (ρ2 := ρ1.set 5 (.val (frD (low (S + a * (L / d) * y) L)))) (by rw [e1]; rfl) ?_]
      · exact f1
      · clear f1 f2 e1
        generalize hP : low (S + a * (L / d) * y) L = P at hp ⊢
        simp [v5, v6, v7, v8, frD, mulD_int o1, mulD_int o2, mulD_int o3, mulD_int o4, hp]
    · rw [f2, wsum]
      rw [show S + a * (L / d) * y + wsum L zs = S + (a * (L / d) * y + wsum L zs) by omega]
def LW (n m : Nat) (e : Bool) : Int := LL (W n m e)
theorem tabA_at {n m : Nat} (e : Bool) (h1 : 1 ≤ n) (h2 : n ≤ 10) (h3 : 1 ≤ m) (h4 : m ≤ 8) : tabA n m e = true := by
  have := tabA_all n (by omega) m (by omega) h1 h3
  cases e
  · exact this.2
  · exact this.1
theorem good {n m : Nat} (e : Bool) (h1 : 1 ≤ n) (h2 : n ≤ 10) (h3 : 1 ≤ m) (h4 : m ≤ 8) : Good (W n m e) (LW n m e) := by
  have h := tabA_at e h1 h2 h3 h4
  unfold tabA at h
  simp only [Bool.and_eq_true, decide_eq_true_eq, List.all_eq_true] at h
  obtain ⟨g1, g2, g3, g4, g5, g6⟩ := h
  refine ⟨g2, g3, fun p hp => ?_⟩
  obtain ⟨a1, a2, a3, a4⟩ := g1 p hp
  have hq : LL (W n m e) / p.2 * p.2 = LL (W n m e) := Int.ediv_mul_cancel (Int.dvd_of_emod_eq_zero a2)
  refine ⟨a1, Int.le_of_dvd g2 (Int.dvd_of_emod_eq_zero a2), hq, a3, ?_⟩
  exact g4 _ (List.mem_map.mpr ⟨p, hp, rfl⟩)
theorem weights_in_ok {n m : Nat} (e : Bool) (h1 : 1 ≤ n) (h2 : n ≤ 10) (h3 : 1 ≤ m) (h4 : m ≤ 8) : m_weights_in [.int n, .int m, .str (wd e)] = .ok (.list ((W n m e).map frD)) := by
  have := prog_w n (by omega) m (by omega) h1 h3
  have : pw n m e = true := by
    cases e
    · exact this.2
    · exact this.1
  exact wtOf_ok (of_decide_eq_true this)
theorem lweights_ok {n m : Nat} (e : Bool) (h1 : 1 ≤ n) (h2 : n ≤ 10) (h3 : 1 ≤ m) (h4 : m ≤ 8) : m__law_weights [.int n, .int m, .str (wd e)] = .ok (.list ((W n m e).map frD)) := by
  have := law_w n h1 (by omega) m h3 (by omega)
  have : lw n m e = true := by
    cases e
    · exact this.2
    · exact this.1
  exact wtOf_ok (of_decide_eq_true this)
/-- the numerator of what one is given back -/
def NB (ws : List Int) (m : Nat) (e : Bool) (k : Nat) : Int := dot (AA (W ws.length m e)) ((desc (ws.eraseIdx k)).drop m)
theorem out_map (ws : List Int) (k : Nat) : (ws.map PyData.int).take k ++ (ws.map PyData.int).drop (k + 1) = (ws.eraseIdx k).map .int := by
  rw [List.eraseIdx_eq_take_drop_succ, List.map_append, List.map_take, List.map_drop]
theorem low_0 {L : Int} (hL : 0 < L) : low 0 L = (0, 1) := by
  rw [low_eq (n' := 0) (d' := 1) hL (by decide) (by omega)]; exact low_one 0
theorem back_to_ok {ws : List Int} (h : Ws ws) {m : Nat} (e : Bool) (h3 : 1 ≤ m) (h4 : m ≤ 8) {k : Nat} (hk : k < ws.length) : m_back_to [intsD ws, .int m, .str (wd e), .int k] = .ok (frD (low (NB ws m e k) (LW ws.length m e))) := by
  obtain ⟨g1, g2, g3⟩ := h
  have G := good e g1 g2 h3 h4
  have hw := weights_in_ok e g1 g2 h3 h4
  have hel : (ws.eraseIdx k).length ≤ 10 := by rw [List.length_eraseIdx]; split <;> omega
  obtain ⟨o, ho⟩ : ∃ o, o = desc (ws.eraseIdx k) := ⟨_, rfl⟩
  have hob : ∀ y ∈ o, y.natAbs < 2 ^ 20 := fun y hy => by
    rw [ho] at hy
    have := g3 y (List.mem_of_mem_eraseIdx ((desc_perm _).mem_iff.mp hy))
    omega
  have hol : o.length ≤ 10 := by rw [ho, desc_len]; exact hel
  obtain ⟨l, hl⟩ : ∃ l, l = W ws.length m e := ⟨_, rfl⟩
  obtain ⟨L, hL⟩ : ∃ L, L = LW ws.length m e := ⟨_, rfl⟩
  rw [← hl] at hw
  rw [← hl, ← hL] at G
  have hll : (l.zip (o.drop m)).length ≤ 10 := by rw [List.length_zip, List.length_drop]; omega
  obtain ⟨ρ', f1, f2⟩ := back_loop G.pos G.small (l.zip (o.drop m)) 0 [.val (intsD ws), .val (.int m), .val (.str (wd e)), .val (.int k), .val (intsD o), .val (frD (low 0 L)), .un, .un, .un]
    (fun z hz => by
      obtain ⟨m1, m2⟩ := List.of_mem_zip (a := z.1) (b := z.2) hz
      obtain ⟨a1, a2, a3, a4, a5⟩ := G.at_ z.1 m1
      exact ⟨a1, a2, a3, a4, a5, hob _ (List.mem_of_mem_drop m2)⟩) (by simp only [Int.natAbs_zero]; omega) rfl rfl
  rw [low_0 G.pos] at f1
  have hN : NB ws m e k = 0 + wsum L (l.zip (o.drop m)) := by
    rw [wsum_dot, NB, ← ho, ← hl, AA, hL, LW, ← hl]; omega
  rw [← hL, hN]
  have hcut1 : cutD (ws.map PyData.int) none (some (k : Int)) = (ws.map PyData.int).take k := cut_to _ k
  have hcut2 : cutD (ws.map PyData.int) (some ((k : Int) + 1)) none = (ws.map PyData.int).drop (k + 1) := cut_from _ (k + 1)
  have hcut3 : cutD (o.map PyData.int) (some (m : Int)) none = (o.map PyData.int).drop m := cut_from _ m
  have hlen : lenOk ((ws.eraseIdx k).map PyData.int) = some ((ws.eraseIdx k).map .int) := by unfold lenOk; rw [if_pos (by simp; omega)]
  have hrev : ((sortI (ws.eraseIdx k)).map PyData.int).reverse = o.map .int := by rw [desc_map, ho]
  have hzip : zipL [.list (l.map frD), .list ((o.map PyData.int).drop m)] = some ((l.zip (o.drop m)).map zD) := by
    rw [zipL_list _ _ (by rw [List.length_map, hl]; unfold W; split; · simp
                          · split <;> simp <;> omega)]
    congr 1
    rw [← List.map_drop, List.zip_map, List.map_map]
    rfl
  generalize wsum L (l.zip (o.drop m)) = S at f2 ⊢
  generalize (l.zip (o.drop m)).map zD = zs at hzip f1
  have v5 : eVar 5 ρ' = .ok (frD (low (0 + S) L)) := eVar_val f2
  have e4 : (e1 listD (e1 revL (e1 listD (e1 sortedN (eCons (e1 listD (e1 lenOk (eStar (eSl slT (eVarB 0) (eNone) (e1 asI (eVarB 3))) (eStar (eSl slT (eVarB 0) (e1 asI (e2 addD (eVarB 3) (eC (.int 1)))) (eNone)) (eNil))))) eNil))))) [.val (intsD ws), .val (.int m), .val (.str (wd e)), .val (.int k), .un, .un, .un, .un, .un] = .ok (intsD o) := by
    simp only [e1_eq, eCons_eq, eStar_eq, eSl_eq, eNone_eq, e2_eq, eC_eq, eNil_eq, eVarB_val (i := 0) (d := intsD ws) (ρ := [.val (intsD ws), .val (.int m), .val (.str (wd e)), .val (.int k), .un, .un, .un, .un, .un]) rfl, eVarB_val (i := 3) (d := .int k) (ρ := [.val (intsD ws), .val (.int m), .val (.str (wd e)), .val (.int k), .un, .un, .un, .un, .un]) rfl, Res.bind_ok, asI_int, ofO_some, slT_list, hcut1, addD_int, hcut2, itL_list, List.append_nil, out_map, hlen, listD_eq, sortedN_ints, revL_list, hrev]
  have ez : (e1 zipL (eCons (eCall m_weights_in (eCons (e1 lenD (eCons (eVarB 0) eNil)) (eCons (eVar 1) (eCons (eVar 2) (eNil))))) (eCons (eSl slT (eVarB 4) (e1 asI (eVarB 1)) (eNone)) (eNil)))) [.val (intsD ws), .val (.int m), .val (.str (wd e)), .val (.int k), .val (intsD o), .val (frD (0, 1)), .un, .un, .un] = .ok zs := by
    simp [hw, hcut3, hzip, -List.map_drop]
  show outR ((sSeq (sSet 4 _) (sSeq (sSet 5 _) (sSeq (sFor _ _ _) (sRet (eVar 5))))) [.val (intsD ws), .val (.int m), .val (.str (wd e)), .val (.int k), .un, .un, .un, .un, .un]) = _
  rw [sSeq_eq, sSet_eq, e4, Res.out_ok, Out.seq_nx, sSeq_eq, sSet_eq, eC_eq, Res.out_ok, Out.seq_nx, sSeq_eq, sFor_eq]
  show outR ((((e1 zipL _ : Ro → Res (List PyData)) [.val (intsD ws), .val (.int m), .val (.str (wd e)), .val (.int k), .val (intsD o), .val (frD (0, 1)), .un, .un, .un]).out _).seq _) = _
  rw [ez, Res.out_ok]
  refine (congrArg (fun z : Out => outR (z.seq (sRet (eVar 5)))) (show _ = Out.nx ρ' from f1)).trans ?_
  show outR ((Out.nx ρ').seq (sRet (eVar 5))) = _
  rw [Out.seq_nx, sRet_eq, v5]
  rfl
end K03
/-! K03R: the law's sums. -/
namespace K03
open PySem PySem.Spec PyProof.Rows L2 Pf LawC K03M
theorem add_low {L S N : Int} (hL : 0 < L) : low ((low S L).1 * (low N L).2 + (low N L).1 * (low S L).2) ((low S L).2 * (low N L).2) = low (S + N) L := by
  obtain ⟨d1, _⟩ := low_den (n := S) hL
  obtain ⟨d2, _⟩ := low_den (n := N) hL
  have h1 := low_val (n := S) hL
  have h2 := low_val (n := N) hL
  refine low_eq (Int.mul_pos d1 d2) hL ?_
  generalize (low S L).1 = s at h1 ⊢
  generalize (low S L).2 = r at h1 ⊢
  generalize (low N L).1 = n at h2 ⊢
  generalize (low N L).2 = q at h2 ⊢
  grind
theorem ladd_low {L S N : Int} (hL : 0 < L) (hL2 : L < 2 ^ 40) (hS : S.natAbs < 2 ^ 110) (hN : N.natAbs < 2 ^ 110) : LawC.m__law_add [frD (low S L), frD (low N L)] = .ok (frD (low (S + N) L)) := by
  obtain ⟨d1, d2⟩ := low_den (n := S) hL
  obtain ⟨d3, d4⟩ := low_den (n := N) hL
  have n1 := low_num (n := S) hL
  have n2 := low_num (n := N) hL
  have k1 : (low S L).2 * (low N L).2 ≤ L * L := Int.mul_le_mul d2 d4 (by omega) (by omega)
  have k2 : L * L ≤ 2 ^ 40 * 2 ^ 40 := Int.mul_le_mul (by omega) (by omega) (by omega) (by decide)
  have k3 : (2 : Int) ^ 40 * 2 ^ 40 < 2 ^ 200 := by decide
  rw [ladd_ok (low S L) (low N L) (okMul_of (k := 110) (l := 40) (by omega) (by omega)) (okMul_of (k := 110) (l := 40) (by omega) (by omega)) (okMul_of (k := 40) (l := 40) (by omega) (by omega)) (Int.mul_pos d1 d3) (by omega), add_low hL]
theorem lsum_loop {L : Int} (hL : 0 < L) (hL2 : L < 2 ^ 40) : ∀ (Ns : List Int) (S : Int) (ρ : Ro), (∀ N ∈ Ns, N.natAbs < 2 ^ 100) → S.natAbs + Ns.length * 2 ^ 100 < 2 ^ 110 → ρ[1]? = some (.val (frD (low S L))) → ρ.length = 3 →
    ∃ ρ', forF (gSet 2) (sSet 1 (eCall LawC.m__law_add (eCons (eVar 1) (eCons (eVar 2) (eNil))))) (Ns.map fun N => frD (low N L)) ρ = .nx ρ' ∧ ρ'[1]? = some (.val (frD (low (S + Ns.sum) L)))
  | [], S, ρ, _, _, h1, _ => ⟨ρ, rfl, by simpa using h1⟩
  | N :: Ns, S, ρ, hN, hS, h1, hl => by
    have hS' : S.natAbs + (Ns.length + 1) * 2 ^ 100 < 2 ^ 110 := by simpa using hS
    have hN0 := hN N (List.mem_cons_self ..)
    have ha := ladd_low (S := S) (N := N) hL hL2 (by omega) (by omega)
    obtain ⟨ρ', f1, f2⟩ := lsum_loop hL hL2 Ns (S + N) ((ρ.set 2 (.val (frD (low N L)))).set 1 (.val (frD (low (S + N) L)))) (fun M hM => hN M (List.mem_cons_of_mem _ hM)) (by omega)
      (by rw [List.getElem?_set_self (by simp; omega)]) (by simp [hl])
    refine ⟨ρ', ?_, by rw [f2, List.sum_cons]; congr 4; omega⟩
    rw [List.map_cons, forF_nx (ρ1 := ρ.set 2 (.val (frD (low N L)))) (ρ2 := (ρ.set 2 (.val (frD (low N L)))).set 1 (.val (frD (low (S + N) L)))) rfl ?_]
    · exact f1
    · have v1 : eVar 1 (ρ.set 2 (.val (frD (low N L)))) = .ok (frD (low S L)) := eVar_val (by rw [List.getElem?_set_ne (by decide)]; exact h1)
      have v2 : eVar 2 (ρ.set 2 (.val (frD (low N L)))) = .ok (frD (low N L)) := eVar_val (by rw [List.getElem?_set_self (by omega)])
      rw [sSet_eq, eCall_eq, eCons_eq, v1, eCons_eq, v2, eNil_eq]
      simp only [Res.bind_ok, ha, Res.out_ok]
theorem lsum_ok {L : Int} (hL : 0 < L) (hL2 : L < 2 ^ 40) (Ns : List Int) (hN : ∀ N ∈ Ns, N.natAbs < 2 ^ 100) (hl : Ns.length ≤ 100) : m__law_sum [.list (Ns.map fun N => frD (low N L))] = .ok (frD (low Ns.sum L)) := by
  obtain ⟨ρ', f1, f2⟩ := lsum_loop hL hL2 Ns 0 [.val (.list (Ns.map fun N => frD (low N L))), .val (frD (low 0 L)), .un] hN (by simp only [Int.natAbs_zero]; omega) rfl rfl
  rw [low_0 hL, Int.zero_add] at *
  have v1 : eVar 1 ρ' = .ok (frD (low Ns.sum L)) := eVar_val f2
  rw [e_sum]
  generalize (Ns.map fun N => frD (low N L)) = zs at f1 ⊢
  show outR ((sSeq (sSet 1 (e1 tupD (eCons (eC (.int 0)) (eCons (eC (.int 1)) eNil)))) (sSeq (sFor (e1 itL (eVar 0)) (gSet 2) (sSet 1 (eCall LawC.m__law_add (eCons (eVar 1) (eCons (eVar 2) (eNil)))))) (sRet (eVar 1)))) [.val (.list zs), .un, .un]) = _
  have e0 : (e1 tupD (eCons (eC (.int 0)) (eCons (eC (.int 1)) eNil))) ([.val (.list zs), .un, .un] : Ro) = .ok (frD (0, 1)) := rfl
  have e2 : e1 itL (eVar 0) ([.val (.list zs), .val (frD (0, 1)), .un] : Ro) = .ok zs := rfl
  rw [sSeq_eq, sSet_eq, e0, Res.out_ok, Out.seq_nx, sSeq_eq, sFor_eq]
  show outR (((e1 itL (eVar 0) ([.val (.list zs), .val (frD (0, 1)), .un] : Ro)).out _).seq _) = _
  rw [e2, Res.out_ok]
  refine (congrArg (fun z : Out => outR (z.seq (sRet (eVar 1)))) (show _ = Out.nx ρ' from f1)).trans ?_
  show outR ((Out.nx ρ').seq (sRet (eVar 1))) = _
  rw [Out.seq_nx, sRet_eq, v1]
  rfl
theorem times_low {L a d y : Int} (hL : 0 < L) (hd : 0 < d) (hq : (L / d) * d = L) : low (a * y) (d * 1) = low (a * (L / d) * y) L := by
  refine low_eq (by omega) hL ?_
  generalize L / d = q at hq ⊢
  subst hq
  grind
theorem dot_sum (L : Int) : ∀ (l : List (Int × Int)) (x : List Int), dot (l.map fun p => p.1 * (L / p.2)) x = ((l.zip x).map fun z => z.1.1 * (L / z.1.2) * z.2).sum
  | [], _ => by simp [dot]
  | p :: l, [] => by simp [dot]
  | p :: l, y :: x => by
    rw [List.map_cons, dot, List.zip_cons_cons, List.map_cons, List.sum_cons, dot_sum L l x]
end K03
/-! K03S: what is given back, as the law tells it. -/
namespace K03
open PySem PySem.Spec PyProof.Rows L2 Pf LawC K03M
theorem len_W {n m : Nat} (e : Bool) (h1 : 1 ≤ n) (h2 : n ≤ 10) (h3 : 1 ≤ m) (h4 : m ≤ 8) : (W n m e).length = n - m - 1 := by
  have h := tabA_at e h1 h2 h3 h4
  unfold tabA at h
  simp only [Bool.and_eq_true, decide_eq_true_eq, List.all_eq_true] at h
  exact h.2.2.2.2.1
theorem lback_ok {ws : List Int} (h : Ws ws) {m : Nat} (e : Bool) (h3 : 1 ≤ m) (h4 : m ≤ 8) {k : Nat} (hk : k < ws.length) : m__law_back [intsD ws, .int m, .str (wd e), .int k] = .ok (frD (low (NB ws m e k) (LW ws.length m e))) := by
  obtain ⟨g1, g2, g3⟩ := h
  have G := good e g1 g2 h3 h4
  have hw := lweights_ok e g1 g2 h3 h4
  have hlw := len_W e g1 g2 h3 h4
  have hel : (ws.eraseIdx k).length = ws.length - 1 := by rw [List.length_eraseIdx, if_pos hk]
  obtain ⟨o, ho⟩ : ∃ o, o = desc (ws.eraseIdx k) := ⟨_, rfl⟩
  have hob : ∀ y ∈ o, y.natAbs < 2 ^ 20 := fun y hy => by
    rw [ho] at hy
    have := g3 y (List.mem_of_mem_eraseIdx ((desc_perm _).mem_iff.mp hy))
    omega
  have hol : o.length = ws.length - 1 := by rw [ho, desc_len]; exact hel
  obtain ⟨l, hl⟩ : ∃ l, l = W ws.length m e := ⟨_, rfl⟩
  obtain ⟨L, hL⟩ : ∃ L, L = LW ws.length m e := ⟨_, rfl⟩
  rw [← hl] at hw hlw
  rw [← hl, ← hL] at G
  -- the numerators
  obtain ⟨zs, hzs⟩ : ∃ zs, zs = l.zip (o.drop m) := ⟨_, rfl⟩
  have hzl : zs.length = l.length := by rw [hzs, List.length_zip, List.length_drop]; omega
  have hN : NB ws m e k = (zs.map fun z => z.1.1 * (L / z.1.2) * z.2).sum := by
    rw [hzs, ← dot_sum, NB, ← ho, ← hl, AA, hL, LW, ← hl]
  have hs := lsum_ok G.pos G.small (zs.map fun z => z.1.1 * (L / z.1.2) * z.2) (fun N hN => by
    obtain ⟨z, hz, rfl⟩ := List.mem_map.mp hN
    rw [hzs] at hz
    obtain ⟨m1, m2⟩ := List.of_mem_zip (a := z.1) (b := z.2) hz
    have a5 := (G.at_ z.1 m1).2.2.2.2
    have a6 := hob _ (List.mem_of_mem_drop m2)
    rw [Int.natAbs_mul]
    calc (z.1.1 * (L / z.1.2)).natAbs * z.2.natAbs < 2 ^ 60 * 2 ^ 20 := Nat.mul_lt_mul'' a5 a6
      _ < 2 ^ 100 := by decide) (by rw [List.length_map, hzl]; omega)
  rw [← hL, hN]
  have hcut1 : cutD (ws.map PyData.int) none (some (k : Int)) = (ws.map PyData.int).take k := cut_to _ k
  have hcut2 : cutD (ws.map PyData.int) (some ((k : Int) + 1)) none = (ws.map PyData.int).drop (k + 1) := cut_from _ (k + 1)
  have hadd : addD (.list ((ws.map PyData.int).take k)) (.list ((ws.map PyData.int).drop (k + 1))) = some (intsD (ws.eraseIdx k)) := by
    rw [addD_lists (by simp; omega), out_map]
  have hrev : ((sortI (ws.eraseIdx k)).map PyData.int).reverse = o.map .int := by rw [desc_map, ho]
  have hcomp : ∀ ρ : Ro, ρ.length = 7 → ρ[1]? = some (.val (.int m)) → ρ[4]? = some (.val (intsD o)) → ρ[5]? = some (.val (.list (l.map frD))) →
      compF (gSet 6) eTrue (eCall m__law_times (eCons (e2 ixD (eVarB 5) (eVarB 6)) (eCons (e1 tupD (eCons (e2 ixD (eVarB 4) (e2 addD (eVarB 1) (eVarB 6))) (eCons (eC (.int 1)) (eNil)))) (eNil)))) ρ ((List.range l.length).map fun i => .int (i : Nat)) = some ((zs.map fun z => z.1.1 * (L / z.1.2) * z.2).map fun N => frD (low N L)) := by
    intro ρ r0 r1 r4 r5
    have hc := compF_all (fun i : Nat => PyData.int (i : Nat)) (g := gSet 6) (f := eCall m__law_times (eCons (e2 ixD (eVarB 5) (eVarB 6)) (eCons (e1 tupD (eCons (e2 ixD (eVarB 4) (e2 addD (eVarB 1) (eVarB 6))) (eCons (eC (.int 1)) (eNil)))) (eNil)))) (ρ := ρ)
      (fun i => frD (low ((l.getD i (0, 1)).1 * (L / (l.getD i (0, 1)).2) * o.getD (m + i) 0) L)) (List.range l.length) fun i hi => ?_
    · rw [hc]
      congr 1
      rw [List.map_map]
      refine List.ext_getElem (by simp [hzl]) fun i q1 q2 => ?_
      have i1 : i < l.length := by simpa using q1
      have i2 : m + i < o.length := by omega
      have i3 : i < zs.length := by omega
      have ez : zs[i] = (l[i], o[m + i]) := by simp [hzs]
      simp only [List.getElem_map, List.getElem_range, Function.comp_apply, ez]
      simp [List.getD_eq_getElem?_getD, i1, i2]
    · have i1 : i < l.length := List.mem_range.mp hi
      have i2 : m + i < o.length := by omega
      have el : l.getD i (0, 1) = l[i] := by simp [List.getD_eq_getElem?_getD, i1]
      have eo : o.getD (m + i) 0 = o[m + i] := by simp [List.getD_eq_getElem?_getD, i2]
      obtain ⟨a1, a2, a3, a4, a5⟩ := G.at_ l[i] (List.getElem_mem i1)
      have a6 := hob o[m + i] (List.getElem_mem i2)
      have gs := G.small
      have ht := ltimes_ok l[i] (o[m + i], 1) (okMul_of a4 a6) (okMul_of (k := 40) (l := 1) (by omega) (show (1 : Int).natAbs < 2 ^ 1 by decide)) (by simp only; omega) (by simp only; omega)
      rw [show low (l[i].1 * (o[m + i], (1 : Int)).1) (l[i].2 * (o[m + i], (1 : Int)).2) = low (l[i].1 * (L / l[i].2) * o[m + i]) L from times_low G.pos a1 a3] at ht
      refine ⟨ρ.set 6 (.val (.int i)), rfl, ?_⟩
      have v1 : eVarB 1 (ρ.set 6 (.val (.int i))) = .ok (.int m) := eVarB_val (by rw [List.getElem?_set_ne (by decide)]; exact r1)
      have v4 : eVarB 4 (ρ.set 6 (.val (.int i))) = .ok (intsD o) := eVarB_val (by rw [List.getElem?_set_ne (by decide)]; exact r4)
      have v5 : eVarB 5 (ρ.set 6 (.val (.int i))) = .ok (.list (l.map frD)) := eVarB_val (by rw [List.getElem?_set_ne (by decide)]; exact r5)
      have v6 : eVarB 6 (ρ.set 6 (.val (.int i))) = .ok (.int i) := eVarB_val (by rw [List.getElem?_set_self (by omega)])
      have x5 : atI (l.map frD) (i : Int) = some (frD l[i]) := by rw [Pf.atI_nat]; simp [i1]
      have x4 : atI (o.map PyData.int) ((m : Int) + i) = some (.int o[m + i]) := by
        rw [show (m : Int) + i = ((m + i : Nat) : Int) by omega, Pf.atI_nat]; simp [i2]
      rw [el, eo]
      rw [eCall_eq, eCons_eq, e2_eq, v5, v6]
      simp only [Res.bind_ok, ixD_list, x5, ofO_some, eCons_eq, e1_eq, e2_eq, v4, v1, v6, addD_int, x4, eC_eq, eNil_eq, tupD_eq]
      rw [e_times]
      exact ht
  generalize (zs.map fun z => z.1.1 * (L / z.1.2) * z.2).sum = T at hs ⊢
  generalize ((zs.map fun z => z.1.1 * (L / z.1.2) * z.2).map fun N => frD (low N L)) = fs at hs hcomp
  have hrg : rg1 [.int ((l.map frD).length : Nat)] = some ((List.range l.length).map fun i => .int (i : Nat)) := by
    rw [rg1_int _ (by omega) (by simp; omega), rngL_0]; simp
  have hc5 := hcomp [.val (intsD ws), .val (.int m), .val (.str (wd e)), .val (.int k), .val (intsD o), .val (.list (l.map frD)), .un] rfl rfl rfl rfl
  simp only [List.length_map] at hrg
  simp [m__law_back, hcut1, hcut2, hadd, hrev, hw, hrg, hc5, hs, -List.map_drop, -List.map_take]
end K03
/-! K03U: lists of what is given back; what is left over. -/
namespace K03
open PySem PySem.Spec PyProof.Rows L2 Pf LawC K03M
/-- all numerators -/
def NBs (ws : List Int) (m : Nat) (e : Bool) : List Int := (List.range ws.length).map (NB ws m e)
abbrev backs (ws : List Int) (m : Nat) (e : Bool) : List PyData := (NBs ws m e).map fun N => frD (low N (LW ws.length m e))
theorem given_ok {ws : List Int} (h : Ws ws) {m : Nat} (e : Bool) (h3 : 1 ≤ m) (h4 : m ≤ 8) : m_given_back [intsD ws, .int m, .str (wd e)] = .ok (.list (backs ws m e)) := by
  have hb : ∀ ρ : Ro, ρ.length = 4 → ρ[0]? = some (.val (intsD ws)) → ρ[1]? = some (.val (.int m)) → ρ[2]? = some (.val (.str (wd e))) →
      compF (gSet 3) eTrue (eCall m_back_to (eCons (eVar 0) (eCons (eVar 1) (eCons (eVar 2) (eCons (eVar 3) (eNil)))))) ρ ((List.range ws.length).map fun i => .int (i : Nat)) = some (backs ws m e) := by
    intro ρ r r0 r1 r2
    have hc := compF_all (fun i : Nat => PyData.int (i : Nat)) (g := gSet 3) (f := eCall m_back_to (eCons (eVar 0) (eCons (eVar 1) (eCons (eVar 2) (eCons (eVar 3) (eNil)))))) (ρ := ρ)
      (fun i => frD (low (NB ws m e i) (LW ws.length m e))) (List.range ws.length) fun i hi => by
        refine ⟨ρ.set 3 (.val (.int i)), rfl, ?_⟩
        have v0 : eVar 0 (ρ.set 3 (.val (.int i))) = .ok (intsD ws) := eVar_val (by rw [List.getElem?_set_ne (by decide)]; exact r0)
        have v1 : eVar 1 (ρ.set 3 (.val (.int i))) = .ok (.int m) := eVar_val (by rw [List.getElem?_set_ne (by decide)]; exact r1)
        have v2 : eVar 2 (ρ.set 3 (.val (.int i))) = .ok (.str (wd e)) := eVar_val (by rw [List.getElem?_set_ne (by decide)]; exact r2)
        have v3 : eVar 3 (ρ.set 3 (.val (.int i))) = .ok (.int i) := eVar_val (by rw [List.getElem?_set_self (by omega)])
        rw [eCall_eq, eCons_eq, v0, eCons_eq, v1, eCons_eq, v2, eCons_eq, v3, eNil_eq]
        exact back_to_ok h e h3 h4 (List.mem_range.mp hi)
    rw [hc]
    simp [backs, NBs, Function.comp_def]
  have hrg : rg1 [.int (ws.length : Nat)] = some ((List.range ws.length).map fun i => .int (i : Nat)) := by
    have := h.2.1
    rw [rg1_int _ (by omega) (by omega), rngL_0]; simp
  have hc := hb [.val (intsD ws), .val (.int m), .val (.str (wd e)), .un] rfl rfl rfl rfl
  generalize backs ws m e = bs at hc ⊢
  simp [m_given_back, check_worths_ok h h3 h4, check_word_ok, hrg, hc]
theorem NB_small {ws : List Int} (h : Ws ws) {m : Nat} (e : Bool) (h3 : 1 ≤ m) (h4 : m ≤ 8) (k : Nat) : (NB ws m e k).natAbs < 2 ^ 90 := by
  have key : ∀ (A x : List Int), (∀ a ∈ A, a.natAbs < 2 ^ 60) → (∀ y ∈ x, y.natAbs < 2 ^ 20) → (dot A x).natAbs ≤ A.length * 2 ^ 80 := by
    intro A
    induction A with
    | nil => intro x _ _; simp [dot]
    | cons a A ih =>
      intro x ha hx
      cases x with
      | nil => simp [dot]
      | cons y x =>
        have h1 := ih x (fun b hb => ha b (List.mem_cons_of_mem _ hb)) fun b hb => hx b (List.mem_cons_of_mem _ hb)
        have h2 : (a * y).natAbs < 2 ^ 80 := by
          rw [Int.natAbs_mul]
          calc a.natAbs * y.natAbs < 2 ^ 60 * 2 ^ 20 := Nat.mul_lt_mul'' (ha a (List.mem_cons_self ..)) (hx y (List.mem_cons_self ..))
            _ = 2 ^ 80 := by decide
        have h3 : (dot (a :: A) (y :: x)).natAbs ≤ (a * y).natAbs + (dot A x).natAbs := Int.natAbs_add_le ..
        rw [List.length_cons, Nat.add_mul]
        omega
  have G := good e h.1 h.2.1 h3 h4
  have hl := len_W e h.1 h.2.1 h3 h4
  have := key (AA (W ws.length m e)) ((desc (ws.eraseIdx k)).drop m) (fun a ha => by
    obtain ⟨p, hp, rfl⟩ := List.mem_map.mp ha
    exact (G.at_ p hp).2.2.2.2) fun y hy => by
      have := h.2.2 y (List.mem_of_mem_eraseIdx ((desc_perm _).mem_iff.mp (List.mem_of_mem_drop hy)))
      omega
  have hA : (AA (W ws.length m e)).length ≤ 10 := by rw [AA, List.length_map, hl]; have := h.2.1; omega
  have h5 : (AA (W ws.length m e)).length * 2 ^ 80 ≤ 10 * 2 ^ 80 := Nat.mul_le_mul_right _ hA
  have h6 : 10 * 2 ^ 80 < 2 ^ 90 := by decide
  unfold NB
  omega
/-- the sum of all that is given back -/
theorem whole_ok {ws : List Int} (h : Ws ws) {m : Nat} (e : Bool) (h3 : 1 ≤ m) (h4 : m ≤ 8) : m__law_sum [.list (backs ws m e)] = .ok (frD (low (NBs ws m e).sum (LW ws.length m e))) := by
  have G := good e h.1 h.2.1 h3 h4
  refine lsum_ok G.pos G.small _ (fun N hN => ?_) (by simp [NBs]; have := h.2.1; omega)
  obtain ⟨k, _, rfl⟩ := List.mem_map.mp hN
  exact Nat.lt_trans (NB_small h e h3 h4 k) (by decide)
theorem weights_of_ok {n m : Nat} (e : Bool) (h1 : 1 ≤ n) (h2 : n ≤ 10) (h3 : 1 ≤ m) (h4 : m ≤ 8) : m_weights_of [.int n, .int m, .str (wd e)] = .ok (.list ((W n m e).map frD)) := by
  have c1 := chain_le 1 n 10 [.val (.int n), .val (.int m), .val (.str (wd e))] (eC (.int 1)) (eVarB 0) (eC (.int 10)) rfl rfl rfl
  have c2 := chain_le 1 m 8 [.val (.int n), .val (.int m), .val (.str (wd e))] (eC (.int 1)) (eVarB 1) (eC (.int 8)) rfl rfl rfl
  have d1 : (decide ((1 : Int) ≤ n) && decide ((n : Int) ≤ 10)) = true := by simp; omega
  have d2 : (decide ((1 : Int) ≤ m) && decide ((m : Int) ≤ 8)) = true := by simp; omega
  rw [d1] at c1
  rw [d2] at c2
  have hw := weights_in_ok e h1 h2 h3 h4
  show outR ((sSeq (sIf (eNot (eChain leD leD (eC (.int 1)) (eVarB 0) (eC (.int 10)))) _ (sPass)) (sSeq (sIf (eNot (eChain leD leD (eC (.int 1)) (eVarB 1) (eC (.int 8)))) _ (sPass)) (sSeq (sExpr (eCall m_check_word (eCons (eVar 2) (eNil)))) (sRet (eCall m_weights_in (eCons (eVar 0) (eCons (eVar 1) (eCons (eVar 2) (eNil)))))))))
    [.val (.int n), .val (.int m), .val (.str (wd e))]) = _
  rw [sSeq_eq, sIf_eq, eNot_eq, c1]
  simp only [Res.bind_ok, Res.out_ok, Bool.not_true, Bool.false_eq_true, if_false, sPass_eq, Out.seq_nx, sSeq_eq, sIf_eq, eNot_eq, c2]
  simp [check_word_ok, hw]
end K03
/-! K03V: what is left over is never less than nothing. -/
namespace K03
open PySem PySem.Spec PyProof.Rows L2 Pf LawC K03M
theorem NBs_sum {ws : List Int} (h : Ws ws) {m : Nat} (e : Bool) (h3 : 1 ≤ m) (h4 : m ≤ 8) (hn : m + 2 ≤ ws.length) : (NBs ws m e).sum = dot (bl ws.length 0 m (AA (W ws.length m e))) ((desc ws).drop m) := by
  have hl := len_W e h.1 h.2.1 h3 h4
  have h1 := sum_out (fun o => dot (AA (W ws.length m e)) (o.drop m)) ws
  have h2 := sum_dot (desc ws) (AA (W ws.length m e)) m 0 (by rw [AA, List.length_map, hl, desc_len]; omega)
  rw [desc_len] at h2
  unfold NBs
  show ((List.range ws.length).map fun k => dot (AA (W ws.length m e)) ((desc (ws.eraseIdx k)).drop m)).sum = _
  rw [h1, ← h2]
  omega
theorem NBs_zero {ws : List Int} {m : Nat} (e : Bool) (hn : ws.length < m + 2) : ∀ k, NB ws m e k = 0 := fun k => by
  unfold NB W
  rw [if_pos hn]
  simp [AA, dot]
theorem dot_neg : ∀ c x : List Int, dot (c.map fun y => -y) x = -dot c x
  | [], _ => by simp [dot]
  | c :: cs, [] => by simp [dot]
  | c :: cs, y :: x => by simp only [List.map_cons, dot, dot_neg cs x]; grind
/-- the numerator of what is left over -/
def RN (ws : List Int) (m : Nat) (e : Bool) : Int := (desc ws).getD m 0 * min (m : Int) ws.length * LW ws.length m e - (NBs ws m e).sum
theorem RN_dot {ws : List Int} (h : Ws ws) {m : Nat} (e : Bool) (h3 : 1 ≤ m) (h4 : m ≤ 8) (hn : m + 2 ≤ ws.length) : RN ws m e = dot (EE ws.length m (W ws.length m e)) ((desc ws).drop m) := by
  have hv : m < (desc ws).length := by rw [desc_len]; omega
  unfold RN
  rw [NBs_sum h e h3 h4 hn, List.drop_eq_getElem_cons hv]
  have e1 : (desc ws).getD m 0 = (desc ws)[m] := by simp [List.getD_eq_getElem?_getD, hv]
  have e2 : min (m : Int) ws.length = m := by omega
  rw [e1, e2]
  unfold EE
  cases hb : bl ws.length 0 m (AA (W ws.length m e)) with
  | nil =>
    exfalso
    cases hA : AA (W ws.length m e) <;> rw [hA] at hb <;> simp [bl] at hb
  | cons b bs =>
    simp only [dot, dot_neg, LW]
    grind
theorem fal_drop {l : List Int} (h : Fal l) (m : Nat) : Fal (l.drop m) := h.sublist (List.drop_sublist ..)
theorem tabE_at {n m : Nat} (e : Bool) (h1 : 1 ≤ n) (h2 : n ≤ 10) (h3 : 1 ≤ m) (h4 : m ≤ 8) (hn : m + 2 ≤ n) : nn 0 (EE n m (W n m e)) = true ∧ (if e then decide ((EE n m (W n m e)).map ((n : Int) * ·) = ((m * (m + 1) * LL (W n m e) : Int) :: (-(m * (m + 1) * LL (W n m e)) : Int) :: List.replicate (n - m - 2) 0))
    else match EE n m (W n m e) with
      | [] => false
      | x :: xs => nn 0 (((low (bin (n - 1) m) (max 1 (tl n m))).1 * (m * LL (W n m e)) - (low (bin (n - 1) m) (max 1 (tl n m))).2 * x) :: xs.map fun y => -((low (bin (n - 1) m) (max 1 (tl n m))).2 * y))) = true := by
  have h : tabE n m e = true := by
    have := tabE_all n (by omega) m (by omega) h1 h3
    cases e
    · exact this.2
    · exact this.1
  unfold tabE at h
  rcases Bool.or_eq_true_iff.mp h with z | z
  · have := of_decide_eq_true z
    omega
  · exact Bool.and_eq_true_iff.mp z
theorem drop_nonneg {ws : List Int} (h : Ws ws) (m : Nat) : ∀ y ∈ (desc ws).drop m, 0 ≤ y := fun y hy => (h.2.2 y ((desc_perm _).mem_iff.mp (List.mem_of_mem_drop hy))).1
theorem RN_nonneg {ws : List Int} (h : Ws ws) {m : Nat} (e : Bool) (h3 : 1 ≤ m) (h4 : m ≤ 8) : 0 ≤ RN ws m e := by
  by_cases hn : m + 2 ≤ ws.length
  · rw [RN_dot h e h3 h4 hn]
    exact abel0 (tabE_at e h.1 h.2.1 h3 h4 hn).1 (fal_drop (desc_fal _) m) (drop_nonneg h m)
  · unfold RN
    have h0 : (NBs ws m e).sum = 0 := by
      unfold NBs
      rw [show (List.range ws.length).map (NB ws m e) = (List.range ws.length).map fun _ => 0 from List.map_congr_left fun k _ => NBs_zero e (by omega) k]
      exact sum_zero _
    have h1 := (getD_bd h.2.2 m).1
    have G := good e h.1 h.2.1 h3 h4
    have h2 : 0 ≤ (desc ws).getD m 0 * min (m : Int) ws.length := Int.mul_nonneg h1 (by omega)
    have h3' : 0 ≤ (desc ws).getD m 0 * min (m : Int) ws.length * LW ws.length m e := Int.mul_nonneg h2 (Int.le_of_lt G.pos)
    omega
theorem NB_nonneg {ws : List Int} (h : Ws ws) {m : Nat} (e : Bool) (h3 : 1 ≤ m) (h4 : m ≤ 8) (k : Nat) : 0 ≤ NB ws m e k := by
  have ht := tabA_at e h.1 h.2.1 h3 h4
  unfold tabA at ht
  simp only [Bool.and_eq_true, decide_eq_true_eq, List.all_eq_true] at ht
  exact abel0 ht.2.2.2.2.2 (fal_drop (desc_fal _) m) fun y hy => (h.2.2 y (List.mem_of_mem_eraseIdx ((desc_perm _).mem_iff.mp (List.mem_of_mem_drop hy)))).1
/-- the even words' rest -/
theorem even_rest {ws : List Int} (h : Ws ws) {m : Nat} (h3 : 1 ≤ m) (h4 : m ≤ 8) (hn : m + 2 ≤ ws.length) : low (RN ws m true) (LW ws.length m true) = low (m * (m + 1) * ((desc ws).getD m 0 - (desc ws).getD (m + 1) 0)) ws.length := by
  have G := good true h.1 h.2.1 h3 h4
  have ht := (tabE_at true h.1 h.2.1 h3 h4 hn).2
  simp only [if_true, decide_eq_true_eq] at ht
  refine low_eq G.pos (by have := h.1; omega) ?_
  have e1 := dot_mul ws.length (EE ws.length m (W ws.length m true)) ((desc ws).drop m)
  rw [ht, ← RN_dot h true h3 h4 hn] at e1
  have hv : m < (desc ws).length := by rw [desc_len]; omega
  have hv2 : m + 1 < (desc ws).length := by rw [desc_len]; omega
  rw [List.drop_eq_getElem_cons hv, List.drop_eq_getElem_cons hv2] at e1
  simp only [dot] at e1
  rw [dot_zero _ _ (fun y hy => List.eq_of_mem_replicate hy)] at e1
  have a1 : (desc ws).getD m 0 = (desc ws)[m] := by simp [List.getD_eq_getElem?_getD, hv]
  have a2 : (desc ws).getD (m + 1) 0 = (desc ws)[m + 1] := by simp [List.getD_eq_getElem?_getD, hv2]
  rw [a1, a2]
  show RN ws m true * ws.length = _ * LW ws.length m true
  unfold LW
  grind
/-- the bound of the words "most" -/
theorem most_rest {ws : List Int} (h : Ws ws) {m : Nat} (h3 : 1 ≤ m) (h4 : m ≤ 8) (hn : m + 2 ≤ ws.length) : RN ws m false * (low (bin (ws.length - 1) m) (max 1 (tl ws.length m))).2 ≤ (low (bin (ws.length - 1) m) (max 1 (tl ws.length m))).1 * ((desc ws).getD m 0 * min (m : Int) ws.length) * LW ws.length m false := by
  have ht := (tabE_at false h.1 h.2.1 h3 h4 hn).2
  have hR := RN_dot h false h3 h4 hn
  have hv : m < (desc ws).length := by rw [desc_len]; omega
  have e2 : min (m : Int) ws.length = m := by omega
  have a1 : (desc ws).getD m 0 = (desc ws)[m] := by simp [List.getD_eq_getElem?_getD, hv]
  cases hE : EE ws.length m (W ws.length m false) with
  | nil => rw [hE] at ht; simp at ht
  | cons x xs =>
    rw [hE] at ht hR
    simp only [Bool.false_eq_true, if_false] at ht
    have hd : 0 ≤ dot _ ((desc ws).drop m) := abel0 ht (fal_drop (desc_fal _) m) (drop_nonneg h m)
    rw [List.drop_eq_getElem_cons hv] at hd hR
    generalize (low (bin (ws.length - 1) m) (max 1 (tl ws.length m))).1 = q at hd ⊢
    generalize (low (bin (ws.length - 1) m) (max 1 (tl ws.length m))).2 = p at hd ⊢
    have em : xs.map (fun y => -(p * y)) = (xs.map (p * ·)).map fun y => -y := by simp
    rw [em] at hd
    simp only [dot, dot_neg, dot_mul] at hd hR
    rw [hR, a1, e2]
    unfold LW
    grind
end K03
/-! K03X: gains. -/
namespace K03
open PySem PySem.Spec PyProof.Rows L2 Pf LawC K03M
theorem gain_low {L N w : Int} (hL : 0 < L) : low ((low N L).1 + w * (low N L).2) (low N L).2 = low (N + w * L) L := by
  obtain ⟨d1, _⟩ := low_den (n := N) hL
  have hv := low_val (n := N) hL
  refine low_eq d1 hL ?_
  generalize (low N L).1 = s at hv ⊢
  generalize (low N L).2 = r at hv ⊢
  grind
/-- what one gains -/
def GN (ws told : List Int) (m : Nat) (e : Bool) (k : Nat) : Int := NB told m e k + win told m k (ws.getD k 0) * LW told.length m e
theorem ahead_comp {told : List Int} {k : Nat} (hk : k < told.length) (ρ : Ro) (r : ρ.length = 8) (r1 : ρ[1]? = some (.val (intsD told))) (r4 : ρ[4]? = some (.val (.int k))) :
    compF (gSet 7) (eOr (eTb (e2 gtD (e2 ixD (eVarB 1) (eVarB 7)) (e2 ixD (eVarB 1) (eVarB 4)))) (eAnd (eTb (e2 eqD (e2 ixD (eVarB 1) (eVarB 7)) (e2 ixD (eVarB 1) (eVarB 4)))) (eTb (e2 ltD (eVarB 7) (eVarB 4))))) (eVar 7) ρ ((List.range told.length).map fun i => .int (i : Nat)) = some ((K03M.ahead told k).map fun i => .int (i : Nat)) := by
  unfold K03M.ahead
  refine compF_map (fun i : Nat => PyData.int (i : Nat)) (fun t => isAhead told k t) (fun i => .int (i : Nat)) (List.range told.length) fun i hi => ?_
  have hi : i < told.length := List.mem_range.mp hi
  obtain ⟨ρ1, e1⟩ : ∃ ρ1 : Ro, ρ1 = ρ.set 7 (.val (.int i)) := ⟨_, rfl⟩
  refine ⟨ρ1, by rw [e1]; rfl, ?_, fun _ => eVar_val (by rw [e1, List.getElem?_set_self (by omega)])⟩
  have v1 : eVarB 1 ρ1 = .ok (intsD told) := eVarB_val (by rw [e1, List.getElem?_set_ne (by decide)]; exact r1)
  have v4 : eVarB 4 ρ1 = .ok (.int k) := eVarB_val (by rw [e1, List.getElem?_set_ne (by decide)]; exact r4)
  have v7 : eVarB 7 ρ1 = .ok (.int i) := eVarB_val (by rw [e1, List.getElem?_set_self (by omega)])
  have ei : told.getD i 0 = told[i] := by simp [List.getD_eq_getElem?_getD, hi]
  have ek : told.getD k 0 = told[k] := by simp [List.getD_eq_getElem?_getD, hk]
  have xi : atI (told.map PyData.int) (i : Int) = some (.int told[i]) := by rw [Pf.atI_nat]; simp [hi]
  have xk : atI (told.map PyData.int) (k : Int) = some (.int told[k]) := by rw [Pf.atI_nat]; simp [hk]
  have hq : ∀ a b : Int, eqD (.int a) (.int b) = some (.bool (decide (a = b))) := fun a b => by
    simp [eqD, SeqAt.shaped, PyData.canLay0, PyData.depth, PyData.eqv]
    by_cases h : a = b <;> simp [h]
  clear e1
  unfold isAhead
  rw [ei, ek]
  generalize told[i] = a at xi ⊢
  generalize told[k] = b at xk ⊢
  have hd : decide ((i : Int) < (k : Int)) = decide (i < k) := by simp only [decide_eq_decide]; omega
  simp only [eOr_eq, eAnd_eq, eTb, e1_eq, e2_eq]
  rw [v1, v4, v7]
  simp only [Res.bind_ok, ixD_list, xi, xk, ofO_some, gtD_int, asB_bool, hq, ltD_int, hd]
  by_cases h1 : b < a
  · simp [h1]
  · by_cases h2 : a = b
    · simp [h1, h2]
    · simp [h1, h2]
theorem lgain_add {L N w : Int} (hL : 0 < L) (hL2 : L < 2 ^ 40) (hN : N.natAbs < 2 ^ 90) (hw : w.natAbs < 2 ^ 30) : m__law_add [frD (low N L), frD (w, 1)] = .ok (frD (low (N + w * L) L)) := by
  obtain ⟨d1, d2⟩ := low_den (n := N) hL
  have n1 := low_num (n := N) hL
  have k3 : (2 : Int) ^ 40 < 2 ^ 200 := by decide
  rw [e_add, ladd_ok (low N L) (w, 1) (okMul_of (k := 90) (l := 1) (by omega) (show (1 : Int).natAbs < 2 ^ 1 by decide)) (okMul_of (k := 30) (l := 40) hw (by omega)) (okMul_of (k := 40) (l := 1) (by omega) (show (1 : Int).natAbs < 2 ^ 1 by decide)) (by simp only; omega) (by simp only; omega)]
  rw [← gain_low hL]
  simp only [Int.mul_one]
theorem lgain_ok {ws told : List Int} (h : Ws ws) (ht : Ws told) (hl : told.length = ws.length) {m : Nat} (e : Bool) (h3 : 1 ≤ m) (h4 : m ≤ 8) {k : Nat} (hk : k < ws.length) :
    m__law_gain [intsD ws, intsD told, .int m, .str (wd e), .int k] = .ok (frD (low (GN ws told m e k) (LW told.length m e))) := by
  have G := good e ht.1 ht.2.1 h3 h4
  have hb := lback_ok ht e h3 h4 (k := k) (by omega)
  have hp := lprice_ok told (by have := ht.2.1; omega) m (by omega)
  have hc := ahead_comp (told := told) (k := k) (by omega) [.val (intsD ws), .val (intsD told), .val (.int m), .val (.str (wd e)), .val (.int k), .un, .un, .un] rfl rfl rfl
  have hwk : atI (ws.map PyData.int) (k : Int) = some (.int (ws.getD k 0)) := by rw [Pf.atI_nat]; simp [hk, List.getD_eq_getElem?_getD]
  have hrg : rg1 [.int (told.length : Nat)] = some ((List.range told.length).map fun i => .int (i : Nat)) := by
    have := ht.2.1
    rw [rg1_int _ (by omega) (by omega), rngL_0]; simp
  have b1 := getD_bd ht.2.2 m
  have b2 : 0 ≤ ws.getD k 0 ∧ ws.getD k 0 ≤ 1000000 := by
    have : ws.getD k 0 = ws[k] := by simp [List.getD_eq_getElem?_getD, hk]
    rw [this]; exact h.2.2 _ (List.getElem_mem hk)
  have ha := lgain_add (w := win told m k (ws.getD k 0)) G.pos G.small (NB_small ht e h3 h4 k) (by unfold win; split <;> omega)
  have hlt : decide (((K03M.ahead told k).length : Int) < (m : Int)) = decide ((K03M.ahead told k).length < m) := by simp only [decide_eq_decide]; omega
  have hwin : ∃ b : Int, (if decide ((K03M.ahead told k).length < m) = true then (1 : Int) else 0) = b ∧ okMul (ws.getD k 0 - (desc told).getD m 0) b = true ∧ (ws.getD k 0 - (desc told).getD m 0) * b = win told m k (ws.getD k 0) := by
    refine ⟨_, rfl, okMul_of (k := 30) (l := 2) (by omega) (by split <;> decide), ?_⟩
    unfold win
    by_cases q : (K03M.ahead told k).length < m <;> simp [q]
  obtain ⟨b, w1, w2, w3⟩ := hwin
  unfold GN
  generalize NB told m e k = N at hb ha ⊢
  generalize win told m k (ws.getD k 0) = wi at ha w3 ⊢
  generalize ws.getD k 0 = x at hwk w2 w3
  generalize (desc told).getD m 0 = P at hp w2 w3
  generalize K03M.ahead told k = ah at hc hlt w1
  have w1' : (if ah.length < m then (1 : Int) else 0) = b := by simpa using w1
  simp [m__law_gain, hrg, hc, hwk, hp, hlt, w1', mulD_int w2, w3, hb]
  exact congrArg (fun z : Res PyData => outR (z.out Out.ret)) ha
end K03
/-! K03Y: winners. -/
namespace K03
open PySem PySem.Spec PyProof.Rows L2 Pf LawC K03M
def ord (w : List Int) : List Nat := (List.range w.length).mergeSort fun t u => !isAhead w t u
theorem ord_perm (w : List Int) : (ord w).Perm (List.range w.length) := List.mergeSort_perm _ _
theorem ord_sorted (w : List Int) : (ord w).Pairwise fun t u => isAhead w t u = false := by
  have h := List.pairwise_mergeSort (le := fun t u : Nat => !isAhead w t u) (by
    intro a b c h1 h2
    unfold isAhead at *
    simp only [Bool.not_eq_true', Bool.or_eq_false_iff, Bool.and_eq_false_iff, decide_eq_false_iff_not] at *
    omega) (by
    intro a b
    unfold isAhead
    by_cases h1 : w.getD a 0 < w.getD b 0 <;> by_cases h2 : w.getD b 0 < w.getD a 0 <;> simp [h1, h2] <;> omega) (List.range w.length)
  exact h.imp fun {a b} h => by simpa using h
theorem mem_top {w : List Int} {m k : Nat} (hk : k < w.length) : k ∈ (ord w).take m ↔ (K03M.ahead w k).length < m := by
  have hm : k ∈ ord w := (ord_perm w).mem_iff.mpr (List.mem_range.mpr hk)
  obtain ⟨s1, s2, e⟩ := List.append_of_mem hm
  have nd : (ord w).Nodup := (ord_perm w).nodup_iff.mpr List.nodup_range
  have so := ord_sorted w
  rw [e] at nd so
  have c1 : (K03M.ahead w k).length = s1.length := by
    have h1 : (K03M.ahead w k).length = ((ord w).filter fun t => isAhead w k t).length := ((ord_perm w).symm.filter _).length_eq
    rw [h1, e, List.filter_append, List.filter_cons]
    have f1 : s1.filter (fun t => isAhead w k t) = s1 := by
      refine List.filter_eq_self.mpr fun t ht => ?_
      have h2 := (List.pairwise_append.mp so).2.2 t ht k (List.mem_cons_self ..)
      have h3 : t ≠ k := fun z => by
        subst z
        exact (List.nodup_append.mp nd).2.2 t ht t (List.mem_cons_self ..) rfl
      unfold isAhead at *
      simp only [Bool.or_eq_false_iff, Bool.and_eq_false_iff, decide_eq_false_iff_not, Bool.or_eq_true, Bool.and_eq_true, decide_eq_true_eq] at *
      omega
    have f2 : s2.filter (fun t => isAhead w k t) = [] := by
      refine List.filter_eq_nil_iff.mpr fun t ht => ?_
      have h2 := (List.pairwise_cons.mp (List.pairwise_append.mp so).2.1).1 t ht
      rw [h2]; exact Bool.false_ne_true
    have f3 : isAhead w k k = false := by unfold isAhead; simp
    rw [f1, f2, f3]
    simp
  rw [c1, e]
  constructor
  · intro h
    refine Nat.lt_of_not_le fun z => ?_
    rw [List.take_append_of_le_length z] at h
    exact (List.nodup_append.mp nd).2.2 k (List.mem_of_mem_take h) k (List.mem_cons_self ..) rfl
  · intro h
    rw [List.take_append, List.take_of_length_le (by omega)]
    refine List.mem_append.mpr (.inr ?_)
    obtain ⟨j, hj⟩ : ∃ j, m - s1.length = j + 1 := ⟨m - s1.length - 1, by omega⟩
    rw [hj, List.take_succ_cons]
    exact List.mem_cons_self ..
end K03
/-! K03Z: winners_of. -/
namespace K03
open PySem PySem.Spec PyProof.Rows L2 Pf LawC K03M
def toD (w : List Int) (t : Nat) : PyData := .tuple [.int (-(w.getD t 0)), .int (t : Nat)]
theorem toD_lt (w : List Int) (t u : Nat) : PySem.W.dataLt (toD w u) (toD w t) = isAhead w t u := by
  unfold toD
  rw [PySem.W.dataLt_ii]
  unfold isAhead
  by_cases h1 : w.getD t 0 < w.getD u 0 <;> by_cases h2 : w.getD u 0 = w.getD t 0 <;> by_cases h3 : u < t <;> simp [h2, h3] <;> omega
theorem okSort_toD (w : List Int) (l : List Nat) : okSort (l.map (toD w)) = true := by
  unfold okSort
  simp only [Bool.and_eq_true, Bool.or_eq_true, List.all_eq_true]
  refine ⟨fun d hd e he => ?_, .inl fun d hd => ?_, fun d hd => ?_⟩
  · obtain ⟨t, _, rfl⟩ := List.mem_map.mp hd
    obtain ⟨u, _, rfl⟩ := List.mem_map.mp he
    simp [toD, PySem.W.alike, PySem.W.alikeAll]
  · obtain ⟨t, _, rfl⟩ := List.mem_map.mp hd
    rfl
  · obtain ⟨t, _, rfl⟩ := List.mem_map.mp hd
    simp [toD, SeqAt.shaped, PyData.canLay0, PyData.canLayAll0, PyData.depth, PyData.depthAll]
theorem sortD_toD (w : List Int) : sortD ((List.range w.length).map (toD w)) = (ord w).map (toD w) := by
  unfold sortD ord
  rw [List.map_mergeSort (s := fun a b => !PySem.W.dataLt b a)]
  intro a _ b _
  rw [toD_lt]
theorem enum_range (w : List Int) : ((w.map PyData.int).zipIdx.map fun p => PyData.tuple [.int (p.2 : Nat), p.1]) = (List.range w.length).map fun t => .tuple [.int (t : Nat), .int (w.getD t 0)] := by
  refine List.ext_getElem (by simp) fun i q1 q2 => ?_
  have i1 : i < w.length := by simpa using q1
  simp [List.getD_eq_getElem?_getD, i1]
theorem winners_ok {w : List Int} {m : Nat} : m_winners_of [intsD w, .int m] = .ok (.list (((ord w).take m).map fun i => .int (i : Nat))) := by
  have h1 : ∀ ρ : Ro, ρ.length = 6 → compF (gUnp (gsCons (gSet 3) (gsCons (gSet 4) (gsNil)))) eTrue (e1 tupD (eCons (e1 negD (eVarB 4)) (eCons (eVar 3) (eNil)))) ρ ((List.range w.length).map fun t => .tuple [.int (t : Nat), .int (w.getD t 0)]) = some ((List.range w.length).map (toD w)) := by
    intro ρ r
    refine compF_all (fun t : Nat => PyData.tuple [.int (t : Nat), .int (w.getD t 0)]) (toD w) _ fun t _ => ?_
    obtain ⟨ρ1, e1⟩ : ∃ ρ1 : Ro, ρ1 = (ρ.set 3 (.val (.int t))).set 4 (.val (.int (w.getD t 0))) := ⟨_, rfl⟩
    refine ⟨ρ1, by rw [e1]; rfl, ?_⟩
    have v3 : eVar 3 ρ1 = .ok (.int t) := eVar_val (by rw [e1, List.getElem?_set_ne (by decide), List.getElem?_set_self (by omega)])
    have v4 : eVarB 4 ρ1 = .ok (.int (w.getD t 0)) := eVarB_val (by rw [e1, List.getElem?_set_self (by simp; omega)])
    simp only [e1_eq, eCons_eq, v4, v3, eNil_eq, Res.bind_ok, negD_int, ofO_some, tupD_eq, toD]
  have h2 : ∀ ρ : Ro, ρ.length = 6 → compF (gUnp (gsCons (gSet 5) (gsCons (gSet 3) (gsNil)))) eTrue (eVar 3) ρ (((ord w).take m).map (toD w)) = some (((ord w).take m).map fun i => .int (i : Nat)) := by
    intro ρ r
    refine compF_all (toD w) (fun i => .int (i : Nat)) _ fun t _ => ?_
    exact ⟨(ρ.set 5 (.val (.int (-(w.getD t 0))))).set 3 (.val (.int t)), rfl, eVar_val (by rw [List.getElem?_set_self (by simp; omega)])⟩
  have hs : sortTN [.list ((List.range w.length).map (toD w))] = some ((ord w).map (toD w)) := by
    show (if okSort _ = true then some (sortD _) else none) = _
    rw [if_pos (okSort_toD w _), sortD_toD]
  have hcut : cutD ((ord w).map (toD w)) none (some (m : Int)) = ((ord w).take m).map (toD w) := by rw [cut_to, List.map_take]
  have hc1 := h1 [.val (intsD w), .val (.int m), .un, .un, .un, .un] rfl
  rw [← enum_range] at hc1
  have hc2 := h2 [.val (intsD w), .val (.int m), .val (.list ((ord w).map (toD w))), .un, .un, .un] rfl
  generalize (List.range w.length).map (toD w) = a1 at hs hc1
  generalize (ord w).map (toD w) = a2 at hs hcut hc2
  generalize ((ord w).take m).map (toD w) = a3 at hcut hc2
  generalize (((ord w).take m).map fun i => PyData.int (i : Nat)) = a4 at hc2 ⊢
  have q1 : e1 listD (e1 sortTN (eCons (e1 listD (eComp [3, 4] (e1 enumL (eCons (eVarB 0) eNil)) (gUnp (gsCons (gSet 3) (gsCons (gSet 4) (gsNil)))) (eTrue) (e1 tupD (eCons (e1 negD (eVarB 4)) (eCons (eVar 3) (eNil)))))) eNil)) [.val (intsD w), .val (.int m), .un, .un, .un, .un] = .ok (.list a2) := by
    show (((Res.bind (ofO (compF _ _ _ [.val (intsD w), .val (.int m), .un, .un, .un, .un] _)) _).bind _).bind _).bind _ = _
    rw [hc1]
    simp only [ofO_some, Res.bind_ok, e1_eq, listD_eq, eNil_eq, hs]
  show outR ((sSeq (sSet 2 _) (sRet (e1 listD (eComp [5, 3] (e1 itL (eSl slT (eVarB 2) (eNone) (e1 asI (eVarB 1)))) (gUnp (gsCons (gSet 5) (gsCons (gSet 3) (gsNil)))) (eTrue) (eVar 3))))) [.val (intsD w), .val (.int m), .un, .un, .un, .un]) = _
  rw [sSeq_eq, sSet_eq, q1, Res.out_ok, Out.seq_nx]
  simp [hcut, hc2]
end K03
/-! K03L: left_over's loop. -/
namespace K03
open PySem PySem.Spec PyProof.Rows L2 Pf LawC K03M
theorem sub_low {L S N : Int} (hL : 0 < L) : low ((low S L).1 * (low N L).2 - (low N L).1 * (low S L).2) ((low S L).2 * (low N L).2) = low (S - N) L := by
  obtain ⟨d1, _⟩ := low_den (n := S) hL
  obtain ⟨d2, _⟩ := low_den (n := N) hL
  have h1 := low_val (n := S) hL
  have h2 := low_val (n := N) hL
  refine low_eq (Int.mul_pos d1 d2) hL ?_
  generalize (low S L).1 = s at h1 ⊢
  generalize (low S L).2 = r at h1 ⊢
  generalize (low N L).1 = n at h2 ⊢
  generalize (low N L).2 = q at h2 ⊢
  grind
theorem left_loop {L : Int} (hL : 0 < L) (hL2 : L < 2 ^ 40) : ∀ (Ns : List Int) (S : Int) (ρ : Ro), (∀ N ∈ Ns, N.natAbs < 2 ^ 100) → S.natAbs + Ns.length * 2 ^ 100 < 2 ^ 110 → ρ[3]? = some (.val (frD (low S L))) → ρ.length = 6 →
    ∃ ρ', forF (gUnp (gsCons (gSet 4) (gsCons (gSet 5) (gsNil)))) (sSet 3 (eCall m_plain (eCons (e2 subD (e2 mulD (e2 ixD (eVarB 3) (eC (.int 0))) (eVarB 5)) (e2 mulD (eVarB 4) (e2 ixD (eVarB 3) (eC (.int 1))))) (eCons (e2 mulD (e2 ixD (eVarB 3) (eC (.int 1))) (eVarB 5)) (eNil))))) (Ns.map fun N => frD (low N L)) ρ = .nx ρ' ∧ ρ'[3]? = some (.val (frD (low (S - Ns.sum) L)))
  | [], S, ρ, _, _, h1, _ => ⟨ρ, rfl, by simpa using h1⟩
  | N :: Ns, S, ρ, hN, hS, h1, hl => by
    have hS' : S.natAbs + (Ns.length + 1) * 2 ^ 100 < 2 ^ 110 := by simpa using hS
    have hN0 := hN N (List.mem_cons_self ..)
    obtain ⟨d1, d2⟩ := low_den (n := S) hL
    obtain ⟨d3, d4⟩ := low_den (n := N) hL
    have n1 := low_num (n := S) hL
    have n2 := low_num (n := N) hL
    have k1 : (low S L).2 * (low N L).2 ≤ L * L := Int.mul_le_mul d2 d4 (by omega) (by omega)
    have k2 : L * L ≤ 2 ^ 40 * 2 ^ 40 := Int.mul_le_mul (by omega) (by omega) (by omega) (by decide)
    have k3 : (2 : Int) ^ 40 * 2 ^ 40 < 2 ^ 200 := by decide
    have o1 : okMul (low S L).1 (low N L).2 = true := okMul_of (k := 110) (l := 40) (by omega) (by omega)
    have o2 : okMul (low N L).1 (low S L).2 = true := okMul_of (k := 110) (l := 40) (by omega) (by omega)
    have o3 : okMul (low S L).2 (low N L).2 = true := okMul_of (k := 40) (l := 40) (by omega) (by omega)
    have hp := plain3_ok ((low S L).1 * (low N L).2 - (low N L).1 * (low S L).2) ((low S L).2 * (low N L).2) (Int.mul_pos d1 d3) (by omega)
    rw [sub_low hL] at hp
    obtain ⟨ρ1, e1⟩ : ∃ ρ1 : Ro, ρ1 = (ρ.set 4 (.val (.int (low N L).1))).set 5 (.val (.int (low N L).2)) := ⟨_, rfl⟩
    have v3 : eVarB 3 ρ1 = .ok (frD (low S L)) := eVarB_val (by rw [e1, List.getElem?_set_ne (by decide), List.getElem?_set_ne (by decide)]; exact h1)
    have v4 : eVarB 4 ρ1 = .ok (.int (low N L).1) := eVarB_val (by rw [e1, List.getElem?_set_ne (by decide), List.getElem?_set_self (by omega)])
    have v5 : eVarB 5 ρ1 = .ok (.int (low N L).2) := eVarB_val (by rw [e1, List.getElem?_set_self (by simp; omega)])
    have hl1 : ρ1.length = 6 := by rw [e1]; simp [hl]
    obtain ⟨ρ', f1, f2⟩ := left_loop hL hL2 Ns (S - N) (ρ1.set 3 (.val (frD (low (S - N) L)))) (fun M hM => hN M (List.mem_cons_of_mem _ hM)) (by omega)
      (by rw [List.getElem?_set_self (by omega)]) (by simp [hl1])
    refine ⟨ρ', ?_, by rw [f2, List.sum_cons, show S - N - Ns.sum = S - (N + Ns.sum) by omega]⟩
    rw [List.map_cons, forF_nx (ρ1 := ρ1) (ρ2 := ρ1.set 3 (.val (frD (low (S - N) L)))) (by rw [e1]; rfl) ?_]
    · exact f1
    · clear f1 f2 e1
      generalize low (S - N) L = P at hp ⊢
      simp [v3, v4, v5, frD, mulD_int o1, mulD_int o2, mulD_int o3, hp]
theorem left_ok {ws : List Int} (h : Ws ws) {m : Nat} (e : Bool) (h3 : 1 ≤ m) (h4 : m ≤ 8) : m_left_over [intsD ws, .int m, .str (wd e)] = .ok (frD (low (RN ws m e) (LW ws.length m e))) := by
  have G := good e h.1 h.2.1 h3 h4
  have hi := income_ok h h3 h4
  have hg' : m_given_back [intsD ws, .int m, .str (wd e)] = .ok (.list ((NBs ws m e).map fun N => frD (low N (LW ws.length m e)))) := given_ok h e h3 h4
  have b := getD_bd h.2.2 m
  have hr : RN ws m e = (desc ws).getD m 0 * min (m : Int) ws.length * LW ws.length m e - (NBs ws m e).sum := rfl
  rw [hr]
  have hI : ((desc ws).getD m 0 * min (m : Int) ws.length).natAbs < 2 ^ 30 := by
    rw [Int.natAbs_mul]
    have := h.2.1
    calc ((desc ws).getD m 0).natAbs * (min (m : Int) ws.length).natAbs < 2 ^ 20 * 2 ^ 10 := Nat.mul_lt_mul'' (by omega) (by omega)
      _ = 2 ^ 30 := by decide
  generalize (desc ws).getD m 0 * min (m : Int) ws.length = I at hi hI ⊢
  have hN : ∀ N ∈ NBs ws m e, N.natAbs < 2 ^ 100 := fun N hN => by
    obtain ⟨k, _, rfl⟩ := List.mem_map.mp hN
    exact Nat.lt_trans (NB_small h e h3 h4 k) (by decide)
  have hlen : (NBs ws m e).length ≤ 10 := by simp [NBs]; exact h.2.1
  generalize LW ws.length m e = L at G hg' ⊢
  have h0 : low (I * L) L = (I, 1) := by rw [low_eq (n' := I) (d' := 1) G.pos (by decide) (by omega), low_one]
  have hIL : (I * L).natAbs < 2 ^ 70 := by
    rw [Int.natAbs_mul]
    have h1 := G.small
    have h2 := G.pos
    calc I.natAbs * L.natAbs < 2 ^ 30 * 2 ^ 40 := Nat.mul_lt_mul'' hI (by omega)
      _ = 2 ^ 70 := by decide
  obtain ⟨ρ', f1, f2⟩ := left_loop G.pos G.small (NBs ws m e) (I * L) [.val (intsD ws), .val (.int m), .val (.str (wd e)), .val (frD (low (I * L) L)), .un, .un] hN (by omega) rfl rfl
  rw [h0] at f1
  have v3 : eVar 3 ρ' = .ok (frD (low (I * L - (NBs ws m e).sum) L)) := eVar_val f2
  generalize (NBs ws m e).sum = T at v3 ⊢
  generalize ((NBs ws m e).map fun N => frD (low N L)) = bs at hg' f1
  have q1 : e1 tupD (eCons (eCall m_income_of (eCons (eVar 0) (eCons (eVar 1) (eNil)))) (eCons (eC (.int 1)) (eNil))) [.val (intsD ws), .val (.int m), .val (.str (wd e)), .un, .un, .un] = .ok (frD (I, 1)) := by simp [hi]
  have q2 : e1 itL (eCall m_given_back (eCons (eVar 0) (eCons (eVar 1) (eCons (eVar 2) (eNil))))) [.val (intsD ws), .val (.int m), .val (.str (wd e)), .val (frD (I, 1)), .un, .un] = .ok bs := by simp [hg']
  show outR ((sSeq (sSet 3 _) (sSeq (sFor _ _ _) (sRet (eVar 3)))) [.val (intsD ws), .val (.int m), .val (.str (wd e)), .un, .un, .un]) = _
  rw [sSeq_eq, sSet_eq, q1, Res.out_ok, Out.seq_nx, sSeq_eq, sFor_eq]
  show outR ((((e1 itL _ : Ro → Res (List PyData)) [.val (intsD ws), .val (.int m), .val (.str (wd e)), .val (frD (I, 1)), .un, .un]).out _).seq _) = _
  rw [q2, Res.out_ok]
  refine (congrArg (fun z : Out => outR (z.seq (sRet (eVar 3)))) (show _ = Out.nx ρ' from f1)).trans ?_
  show outR ((Out.nx ρ').seq (sRet (eVar 3))) = _
  rw [Out.seq_nx, sRet_eq, v3]
  rfl
end K03
/-! K03W: gain_with. -/
namespace K03
open PySem PySem.Spec PyProof.Rows L2 Pf LawC K03M
theorem nats_lay : ∀ l : List Nat, PyData.canLayAll0 (l.map fun i => PyData.int (i : Nat)) = true
  | [] => rfl
  | a :: l => by simp [PyData.canLayAll0, PyData.canLay0, nats_lay l]
theorem nats_depth : ∀ l : List Nat, PyData.depthAll (l.map fun i => PyData.int (i : Nat)) ≤ 2
  | [] => by simp [PyData.depthAll]
  | a :: l => by
    have h := nats_depth l
    rw [List.map_cons, PyData.depthAll, PyData.depth]
    omega
theorem nats_any (k : Nat) : ∀ l : List Nat, ((l.map fun i => PyData.int (i : Nat)).any fun z => PyData.eqv z (.int (k : Nat))) = decide (k ∈ l)
  | [] => rfl
  | a :: l => by
    have e : PyData.eqv (.int (a : Nat)) (.int (k : Nat)) = decide (k = a) := by
      simp only [PyData.eqv]
      by_cases z : k = a
      · subst z; simp
      · have : ¬ ((a : Int) = (k : Int)) := by omega
        simp [z, this]
    rw [List.map_cons, List.any_cons, nats_any k l, e]
    by_cases z : k = a <;> simp [z]
theorem in_nats (k : Nat) (l : List Nat) : inD (.int (k : Nat)) (.list (l.map fun i => .int (i : Nat))) = some (.bool (decide (k ∈ l))) := by
  have h1 : SeqAt.shaped (.int (k : Nat)) = true := by simp [SeqAt.shaped, PyData.canLay0, PyData.depth]
  have h3 : SeqAt.shaped (.list (l.map fun i => PyData.int (i : Nat))) = true := by
    have h2 : PyData.depth (.list (l.map fun i => PyData.int (i : Nat))) ≤ 64 := by
      have := nats_depth l
      simp only [PyData.depth]
      omega
    exact Bool.and_eq_true_iff.mpr ⟨by simp only [PyData.canLay0]; exact nats_lay l, decide_eq_true h2⟩
  have e : inD (.int (k : Nat)) (.list (l.map fun i => .int (i : Nat))) = if SeqAt.shaped (.int (k : Nat)) = true ∧ SeqAt.shaped (.list (l.map fun i => PyData.int (i : Nat))) = true then some (.bool ((l.map fun i => PyData.int (i : Nat)).any fun z => PyData.eqv z (.int (k : Nat)))) else none := rfl
  rw [e, if_pos ⟨h1, h3⟩, nats_any]
end K03
/-! K03Wa: gain_with itself. -/
namespace K03
open PySem PySem.Spec PyProof.Rows L2 Pf LawC K03M
theorem set_Ws {ws : List Int} (h : Ws ws) {k : Nat} {y : Int} (hy : 0 ≤ y ∧ y ≤ 1000000) : Ws (ws.set k y) := by
  refine ⟨by simpa using h.1, by simpa using h.2.1, fun z hz => ?_⟩
  rcases List.mem_or_eq_of_mem_set hz with m | rfl
  · exact h.2.2 z m
  · exact hy
theorem set_map {ws : List Int} {k : Nat} (hk : k < ws.length) (y : Int) : (ws.map PyData.int).take k ++ (.int y :: (ws.map PyData.int).drop (k + 1)) = (ws.set k y).map .int := by
  rw [List.set_eq_take_append_cons_drop, if_pos hk, List.map_append, List.map_cons, List.map_take, List.map_drop]
end K03
/-! K03E: what is proved of the mirrors, as typed functions. -/
namespace K03
open PySem PySem.Spec PyProof.Rows L2 Pf LawC K03M
instance (ws : List Int) : Decidable (Ws ws) := by unfold Ws; infer_instance
def wdO (w : Str) : Option Bool := if w = "even" then some true else if w = "most" then some false else none
theorem wdO_ok {w : Str} {e : Bool} (h : wdO w = some e) : w = wd e := by
  unfold wdO at h
  split at h
  · cases h; assumption
  · split at h
    · cases h; assumption
    · cases h
theorem wdO_wd (e : Bool) : wdO (wd e) = some e := by cases e <;> decide
/-- told for n, m, a word -/
def onNM {α : Type} (n m : Int) (w : Str) (f : Nat → Nat → Bool → α) : Res α := match wdO w with
  | some e => if 1 ≤ n ∧ n ≤ 10 ∧ 1 ≤ m ∧ m ≤ 8 then .ok (f n.toNat m.toNat e) else .bad
  | none => .bad
theorem onNM_ok {α : Type} {n m : Nat} (e : Bool) (f : Nat → Nat → Bool → α) (h1 : 1 ≤ n) (h2 : n ≤ 10) (h3 : 1 ≤ m) (h4 : m ≤ 8) : onNM n m (wd e) f = .ok (f n m e) := by
  unfold onNM
  rw [wdO_wd]
  simp only [Int.toNat_natCast]
  rw [if_pos (by omega)]
theorem onNM_RR {α : Type} {n m : Int} {w : Str} {f : Nat → Nat → Bool → α} {e : α → PyData} {r : Res PyData} (h : ∀ (a b : Nat) (z : Bool), n = a → m = b → w = wd z → 1 ≤ a → a ≤ 10 → 1 ≤ b → b ≤ 8 → r = .ok (e (f a b z))) : RR (onNM n m w f) e r := by
  unfold onNM
  cases q : wdO w with
  | none => trivial
  | some z =>
    simp only
    split
    · rename_i c
      exact h n.toNat m.toNat z (by omega) (by omega) (wdO_ok q) (by omega) (by omega) (by omega) (by omega)
    · trivial
/-- told for worths, m, a word -/
def onW {α : Type} (ws : List Int) (m : Int) (w : Str) (f : Nat → Bool → α) : Res α := match wdO w with
  | some e => if Ws ws ∧ 1 ≤ m ∧ m ≤ 8 then .ok (f m.toNat e) else .bad
  | none => .bad
theorem onW_ok {α : Type} {ws : List Int} {m : Nat} (e : Bool) (f : Nat → Bool → α) (h : Ws ws) (h3 : 1 ≤ m) (h4 : m ≤ 8) : onW ws m (wd e) f = .ok (f m e) := by
  unfold onW
  rw [wdO_wd]
  simp only [Int.toNat_natCast]
  rw [if_pos ⟨h, by omega, by omega⟩]
theorem onW_RR {α : Type} {ws : List Int} {m : Int} {w : Str} {f : Nat → Bool → α} {e : α → PyData} {r : Res PyData} (h : ∀ (b : Nat) (z : Bool), m = b → w = wd z → Ws ws → 1 ≤ b → b ≤ 8 → r = .ok (e (f b z))) : RR (onW ws m w f) e r := by
  unfold onW
  cases q : wdO w with
  | none => trivial
  | some z =>
    simp only
    split
    · rename_i c
      exact h m.toNat z (by omega) (wdO_ok q) c.1 (by omega) (by omega)
    · trivial
def x_weights_of (n m : Int) (w : Str) : Res (List (Int × Int)) := onNM n m w W
theorem t_weights_of (n m : Int) (w : Str) : RR (x_weights_of n m w) (eL (eP eI eI)) (m_weights_of [eI n, eI m, eS w]) := onNM_RR fun a b z e1 e2 e3 h1 h2 h3 h4 => by subst e1 e2 e3; exact weights_of_ok z h1 h2 h3 h4
theorem t__law_weights (n m : Int) (w : Str) : RR (x_weights_of n m w) (eL (eP eI eI)) (m__law_weights [eI n, eI m, eS w]) := onNM_RR fun a b z e1 e2 e3 h1 h2 h3 h4 => by subst e1 e2 e3; exact lweights_ok z h1 h2 h3 h4
def x_back (ws : List Int) (m : Int) (w : Str) (k : Int) : Res (Int × Int) := if 0 ≤ k ∧ k < ws.length then onW ws m w fun m e => low (NB ws m e k.toNat) (LW ws.length m e) else .bad
theorem t__law_back (ws : List Int) (m : Int) (w : Str) (k : Int) : RR (x_back ws m w k) (eP eI eI) (m__law_back [eL eI ws, eI m, eS w, eI k]) := by
  unfold x_back
  split
  · rename_i c
    obtain ⟨k', rfl⟩ : ∃ k' : Nat, k = k' := ⟨k.toNat, by omega⟩
    refine onW_RR fun b z e2 e3 h h3 h4 => ?_
    subst e2 e3
    exact lback_ok h z h3 h4 (by omega)
  · trivial
theorem t_back_to (ws : List Int) (m : Int) (w : Str) (k : Int) : RR (x_back ws m w k) (eP eI eI) (m_back_to [eL eI ws, eI m, eS w, eI k]) := by
  unfold x_back
  split
  · rename_i c
    obtain ⟨k', rfl⟩ : ∃ k' : Nat, k = k' := ⟨k.toNat, by omega⟩
    refine onW_RR fun b z e2 e3 h h3 h4 => ?_
    subst e2 e3
    exact back_to_ok h z h3 h4 (by omega)
  · trivial
def bksT (ws : List Int) (m : Nat) (e : Bool) : List (Int × Int) := (NBs ws m e).map fun N => low N (LW ws.length m e)
def x_given_back (ws : List Int) (m : Int) (w : Str) : Res (List (Int × Int)) := onW ws m w (bksT ws)
theorem t_given_back (ws : List Int) (m : Int) (w : Str) : RR (x_given_back ws m w) (eL (eP eI eI)) (m_given_back [eL eI ws, eI m, eS w]) := onW_RR fun b z e2 e3 h h3 h4 => by
  subst e2 e3
  have := given_ok h z h3 h4
  rw [show eL (eP eI eI) (bksT ws b z) = .list (backs ws b z) by simp [eL, bksT, backs, NBs, eP]]
  exact this
def x_left_over (ws : List Int) (m : Int) (w : Str) : Res (Int × Int) := onW ws m w fun m e => low (RN ws m e) (LW ws.length m e)
theorem t_left_over (ws : List Int) (m : Int) (w : Str) : RR (x_left_over ws m w) (eP eI eI) (m_left_over [eL eI ws, eI m, eS w]) := onW_RR fun b z e2 e3 h h3 h4 => by
  subst e2 e3
  exact left_ok h z h3 h4
def x_price (ws : List Int) (m : Int) : Res Int := if ws.length ≤ 10 ∧ 0 ≤ m ∧ m < 9 then .ok ((desc ws).getD m.toNat 0) else .bad
theorem t__law_price (ws : List Int) (m : Int) : RR (x_price ws m) eI (m__law_price [eL eI ws, eI m]) := by
  unfold x_price
  split
  · rename_i c
    obtain ⟨k', rfl⟩ : ∃ k' : Nat, m = k' := ⟨m.toNat, by omega⟩
    exact lprice_ok ws c.1 k' (by omega)
  · trivial
theorem t_price_of (ws : List Int) (m : Int) : RR (x_price ws m) eI (m_price_of [eL eI ws, eI m]) := by
  unfold x_price
  split
  · rename_i c
    obtain ⟨k', rfl⟩ : ∃ k' : Nat, m = k' := ⟨m.toNat, by omega⟩
    exact price_ok ws k'
  · trivial
def x_income (ws : List Int) (m : Int) : Res Int := if Ws ws ∧ 1 ≤ m ∧ m ≤ 8 then .ok ((desc ws).getD m.toNat 0 * min m ws.length) else .bad
theorem t_income_of (ws : List Int) (m : Int) : RR (x_income ws m) eI (m_income_of [eL eI ws, eI m]) := by
  unfold x_income
  split
  · rename_i c
    obtain ⟨k', rfl⟩ : ∃ k' : Nat, m = k' := ⟨m.toNat, by omega⟩
    exact income_ok c.1 (by omega) (by omega)
  · trivial
def x_gain (ws told : List Int) (m : Int) (w : Str) (k : Int) : Res (Int × Int) := if 0 ≤ k ∧ k < ws.length ∧ Ws told ∧ told.length = ws.length then onW ws m w fun m e => low (GN ws told m e k.toNat) (LW told.length m e) else .bad
theorem t__law_gain (ws told : List Int) (m : Int) (w : Str) (k : Int) : RR (x_gain ws told m w k) (eP eI eI) (m__law_gain [eL eI ws, eL eI told, eI m, eS w, eI k]) := by
  unfold x_gain
  split
  · rename_i c
    obtain ⟨k', rfl⟩ : ∃ k' : Nat, k = k' := ⟨k.toNat, by omega⟩
    refine onW_RR fun b z e2 e3 h h3 h4 => ?_
    subst e2 e3
    exact lgain_ok h c.2.2.1 c.2.2.2 z h3 h4 (by omega)
  · trivial
def x_winners (ws : List Int) (m : Int) : Res (List Int) := if 0 ≤ m then .ok (((ord ws).take m.toNat).map fun (i : Nat) => (i : Int)) else .bad
theorem t_winners_of (ws : List Int) (m : Int) : RR (x_winners ws m) (eL eI) (m_winners_of [eL eI ws, eI m]) := by
  unfold x_winners
  split
  · rename_i c
    obtain ⟨k', rfl⟩ : ∃ k' : Nat, m = k' := ⟨m.toNat, by omega⟩
    refine RR.ok ?_
    show m_winners_of [intsD ws, .int k'] = _
    rw [winners_ok]
    simp only [eL, Int.toNat_natCast, List.map_map]
    rfl
  · trivial
/-- how many sets there are -/
def swl (n : Nat) (k : Nat) : Bool := match m__law_sets [.int (n : Nat), .int (k : Nat)] with
  | .ok (.int r) => decide (r = (bin n k : Int))
  | _ => false
theorem swl_all : ∀ n, n < 10 → ∀ k, k < 12 → swl n k = true := by decide +kernel
def x_sets (n k : Int) : Res Int := if 0 ≤ n ∧ n < 10 ∧ 0 ≤ k ∧ k < 12 then .ok (bin n.toNat k.toNat) else .bad
theorem t__law_sets (n k : Int) : RR (x_sets n k) eI (m__law_sets [eI n, eI k]) := by
  unfold x_sets
  split
  · rename_i c
    obtain ⟨n', rfl⟩ : ∃ n' : Nat, n = n' := ⟨n.toNat, by omega⟩
    obtain ⟨k', rfl⟩ : ∃ k' : Nat, k = k' := ⟨k.toNat, by omega⟩
    have := swl_all n' (by omega) k' (by omega)
    unfold swl at this
    split at this
    · rename_i r e
      have := of_decide_eq_true this
      subst this
      exact e
    · cases this
  · trivial
end K03
namespace K03
open PySem PySem.Spec PyProof.Rows L2 Pf
theorem e_plain : m_plain = LawC.m_plain := Eq.trans rfl rfl
theorem t_plain (n_0 : Int) (d_0 : Int) : RR (TyC.s_plain n_0 d_0) (eP eI eI) (m_plain [(eI n_0), (eI d_0)]) := by
  rw [e_plain]; exact TyC.t_plain n_0 d_0


def s_is_worth (told_0 : Int) : Res Bool :=
  Res.ok (((decide ((0 : Int) ≤ told_0)) && (decide (told_0 ≤ (1000000 : Int)))))
theorem t_is_worth (told_0 : Int) : RR (s_is_worth told_0) eBo (m_is_worth [(eI told_0)]) := by
  unfold s_is_worth
  exact t_def (n := 1) (j := 0) rfl rfl
     (s_last (s_ret (t_bool (t_chainP ci_le ci_le (t_i) (t_varB (e := eI) (a := told_0) rfl) (t_i)))))

def s_check_worths_1  (s_1 : Unit) (x_2 : (Int × Int)) : Res Unit :=
  (((s_is_worth x_2.2).bind fun t_3 => Res.ok ((!t_3)))).bind fun b => if b = true then
  ((Res.ok (x_2.1)).bind fun k => Res.exc "BadWorths" k)
  else Res.ok (())
def s_check_worths (worths_0 : (List Int)) (pieces_0 : Int) : Res Unit :=
  (Res.ok ((!((decide ((1 : Int) ≤ ((worths_0.length : Nat) : Int))) && (decide (((worths_0.length : Nat) : Int) ≤ (10 : Int))))))).bind fun b => if b = true then
  ((Res.ok (((worths_0.length : Nat) : Int))).bind fun k => Res.exc "BadBook" k)
  else (Res.ok ((enumI worths_0))).bind fun xs_4 => (foldR s_check_worths_1 (()) xs_4).bind fun (s_1 : Unit) =>
  (Res.ok ((!((decide ((1 : Int) ≤ pieces_0)) && (decide (pieces_0 ≤ (8 : Int))))))).bind fun b => if b = true then
  ((Res.ok (pieces_0)).bind fun k => Res.exc "BadPieces" k)
  else Res.ok ()
theorem t_check_worths (worths_0 : (List Int)) (pieces_0 : Int) : RR (s_check_worths worths_0 pieces_0) eU (m_check_worths [((eL eI) worths_0), (eI pieces_0)]) := by
  unfold s_check_worths
  exact t_def (n := 2) (j := 2) rfl rfl
     (s_if rfl (t_not (t_chainP ci_le ci_le (t_i) (t_b1 (b_len (e := eI)) (t_varB (e := (eL eI)) (a := worths_0) rfl)) (t_i)))
     (s_raise (t_b1 (b_len (e := eI)) (t_varB (e := (eL eI)) (a := worths_0) rfl)))
     (s_skip (s_for (E := fun (s_1 : Unit) => ([none, some (.val (eI pieces_0)), none, none] : Pn)) (e := (eP eI eI)) rfl [false, true, false, false] (t_b1 (b_enum (e := eI)) (t_var (e := (eL eI)) (a := worths_0) rfl)) rfl (fun s_1 x_2 => tg_unp rfl (tg_cons (tg_set) (tg_cons (tg_set) (tg_nil)))) (fun s_1 x_2 =>
     s_last (s_if rfl (t_not (t_tb (t_f1 t_is_worth (t_var (e := eI) (a := x_2.2) rfl))))
     (s_raise (t_varB (e := eI) (a := x_2.1) rfl))
     (s_skip (s_passB (c := ()) [false, true, false, false] rfl)))) fun s_1 =>
     s_last (s_if rfl (t_not (t_chainP ci_le ci_le (t_i) (t_varB (e := eI) (a := pieces_0) rfl) (t_i)))
     (s_raise (t_varB (e := eI) (a := pieces_0) rfl))
     (s_skip (s_passT (c := ()) rfl))))))


def s_check_word (word_0 : Str) : Res Unit :=
  (ninR (eS word_0) ((eT eS) (("even" : Str) :: (("most" : Str) :: ([] : List Str))))).bind fun b => if b = true then
  ((Res.ok ((0 : Int))).bind fun k => Res.exc "BadWord" k)
  else Res.ok ()
theorem t_check_word (word_0 : Str) : RR (s_check_word word_0) eU (m_check_word [(eS word_0)]) := by
  unfold s_check_word
  exact t_def (n := 1) (j := 0) rfl rfl
     (s_last (s_if rfl (t_tb (t_e2 (op_ninR eS (eT eS)) (t_varB (e := eS) (a := word_0) rfl) (t_tupV (t_lcons (t_st) (t_lcons (t_st) (t_lnil))))))
     (s_raise (t_i))
     (s_skip (s_passT (c := ()) rfl))))


def s_gain_with (worths_0 : (List Int)) (pieces_0 : Int) (word_0 : Str) (k_0 : Int) (lie_0 : Int) : Res (Int × Int) :=
  (s_check_worths worths_0 pieces_0).bind fun _ =>
  (s_check_word word_0).bind fun _ =>
  (Res.ok ((!((decide ((0 : Int) ≤ k_0)) && (decide (k_0 < ((worths_0.length : Nat) : Int))))))).bind fun b => if b = true then
  ((Res.ok (k_0)).bind fun k => Res.exc "BadBidder" k)
  else (((s_is_worth lie_0).bind fun t_5 => Res.ok ((!t_5)))).bind fun b => if b = true then
  ((Res.ok ((-(1 : Int)))).bind fun k => Res.exc "BadWorths" k)
  else (lenR ((cutL worths_0 none (some (k_0))) ++ (lie_0 :: ((cutL worths_0 (some ((k_0 + (1 : Int)))) none) ++ ([] : List Int))))).bind fun (told_6 : (List Int)) =>
  (x_back told_6 pieces_0 word_0 k_0).bind fun (p_7 : (Int × Int)) =>
  (((((x_winners told_6 pieces_0).bind fun t_9 => Res.ok ((decide (k_0 ∈ t_9))))).bind fun t_12 => (if t_12 = true then ((atR worths_0 k_0).bind fun t_10 => (x_price told_6 pieces_0).bind fun t_11 => Res.ok ((t_10 - t_11))) else Res.ok ((0 : Int))))).bind fun (win_8 : Int) =>
  ((((mulR win_8 p_7.2).bind fun t_13 => Res.ok ((p_7.1 + t_13)))).bind fun t_14 => TyC.s_plain t_14 p_7.2)
theorem t_gain_with (worths_0 : (List Int)) (pieces_0 : Int) (word_0 : Str) (k_0 : Int) (lie_0 : Int) : RR (s_gain_with worths_0 pieces_0 word_0 k_0 lie_0) (eP eI eI) (m_gain_with [((eL eI) worths_0), (eI pieces_0), (eS word_0), (eI k_0), (eI lie_0)]) := by
  unfold s_gain_with
  exact t_def (n := 5) (j := 4) rfl rfl
     (s_expr rfl (t_f2 t_check_worths (t_var (e := (eL eI)) (a := worths_0) rfl) (t_var (e := eI) (a := pieces_0) rfl)) fun _ =>
     s_expr rfl (t_f1 t_check_word (t_var (e := eS) (a := word_0) rfl)) fun _ =>
     s_if rfl (t_not (t_chainP ci_le ci_lt (t_i) (t_varB (e := eI) (a := k_0) rfl) (t_b1 (b_len (e := eI)) (t_varB (e := (eL eI)) (a := worths_0) rfl))))
     (s_raise (t_varB (e := eI) (a := k_0) rfl))
     (s_skip (s_if rfl (t_not (t_tb (t_f1 t_is_worth (t_var (e := eI) (a := lie_0) rfl))))
     (s_raise (t_e1 op_neg (t_i)))
     (s_skip (s_set (e := (eL eI)) rfl (t_list (t_lenOk (t_lstar (t_slT (t_varB (e := (eL eI)) (a := worths_0) rfl) (t_none) (t_asI (t_varB (e := eI) (a := k_0) rfl))) (t_lcons (t_var (e := eI) (a := lie_0) rfl) (t_lstar (t_slT (t_varB (e := (eL eI)) (a := worths_0) rfl) (t_asI (t_e2 op_add (t_varB (e := eI) (a := k_0) rfl) (t_i))) (t_none)) (t_lnil)))))) fun told_6 =>
     s_asg (e := (eP eI eI)) rfl (t_f4 t_back_to (t_var (e := (eL eI)) (a := told_6) rfl) (t_var (e := eI) (a := pieces_0) rfl) (t_var (e := eS) (a := word_0) rfl) (t_var (e := eI) (a := k_0) rfl)) (fun p_7 => tg_unp rfl (tg_cons (tg_set) (tg_cons (tg_set) (tg_nil)))) fun p_7 =>
     s_set (e := eI) rfl (t_if (t_tb (t_e2 (op_in eI) (t_varB (e := eI) (a := k_0) rfl) (t_f2 t_winners_of (t_var (e := (eL eI)) (a := told_6) rfl) (t_var (e := eI) (a := pieces_0) rfl)))) (t_e2 op_sub (t_e2 (op_ix (e := eI)) (t_varB (e := (eL eI)) (a := worths_0) rfl) (t_varB (e := eI) (a := k_0) rfl)) (t_f2 t_price_of (t_var (e := (eL eI)) (a := told_6) rfl) (t_var (e := eI) (a := pieces_0) rfl))) (t_i)) fun win_8 =>
     s_last (s_ret (t_f2 t_plain (t_e2 op_add (t_varB (e := eI) (a := p_7.1) rfl) (t_e2 op_mul (t_varB (e := eI) (a := win_8) rfl) (t_varB (e := eI) (a := p_7.2) rfl))) (t_var (e := eI) (a := p_7.2) rfl))))))))

theorem e__law_draws : m__law_draws = LawC.m__law_draws := Eq.trans rfl rfl
theorem t__law_draws (script_0 : (List Int)) : RR (TyC.s__law_draws script_0) (eL eI) (m__law_draws [(eScr script_0)]) := by
  rw [e__law_draws]; exact TyC.t__law_draws script_0

theorem e__law_mix : m__law_mix = LawC.m__law_mix := Eq.trans rfl rfl
theorem t__law_mix (draws_0 : (List Int)) (k_0 : Int) (many_0 : Int) : RR (TyC.s__law_mix draws_0 k_0 many_0) eI (m__law_mix [((eL eI) draws_0), (eI k_0), (eI many_0)]) := by
  rw [e__law_mix]; exact TyC.t__law_mix draws_0 k_0 many_0

theorem e__law_low : m__law_low = LawC.m__law_low := Eq.trans rfl rfl
theorem t__law_low (n_0 : Int) (d_0 : Int) : RR (TyC.s__law_low n_0 d_0) (eP eI eI) (m__law_low [(eI n_0), (eI d_0)]) := by
  rw [e__law_low]; exact TyC.t__law_low n_0 d_0

theorem e__law_add : m__law_add = LawC.m__law_add := Eq.trans rfl rfl
theorem t__law_add (one_0 : (Int × Int)) (two_0 : (Int × Int)) : RR (TyC.s__law_add one_0 two_0) (eP eI eI) (m__law_add [((eP eI eI) one_0), ((eP eI eI) two_0)]) := by
  rw [e__law_add]; exact TyC.t__law_add one_0 two_0

def s__law_sum_1  (s_16 : (Int × Int)) (x_17 : (Int × Int)) : Res (Int × Int) :=
  (TyC.s__law_add s_16 x_17).bind fun (found_18 : (Int × Int)) =>
  Res.ok (found_18)
def s__law_sum (rows_0 : (List (Int × Int))) : Res (Int × Int) :=
  (Res.ok (((0 : Int), (1 : Int)))).bind fun (found_15 : (Int × Int)) =>
  (Res.ok (rows_0)).bind fun xs_19 => (foldR s__law_sum_1 (found_15) xs_19).bind fun (s_16 : (Int × Int)) =>
  Res.ok (s_16)
theorem t__law_sum (rows_0 : (List (Int × Int))) : RR (s__law_sum rows_0) (eP eI eI) (m__law_sum [((eL (eP eI eI)) rows_0)]) := by
  unfold s__law_sum
  exact t_def (n := 1) (j := 2) rfl rfl
     (s_set (e := (eP eI eI)) rfl (t_tup2 (t_i) (t_i)) fun found_15 =>
     s_for (E := fun (s_16 : (Int × Int)) => ([none, some (.val ((eP eI eI) s_16)), none] : Pn)) (e := (eP eI eI)) rfl [false, true, false] (t_e1 (op_it (e := (eP eI eI))) (t_var (e := (eL (eP eI eI))) (a := rows_0) rfl)) rfl (fun s_16 x_17 => tg_set) (fun s_16 x_17 =>
     s_last (s_set (e := (eP eI eI)) rfl (t_f2 t__law_add (t_var (e := (eP eI eI)) (a := s_16) rfl) (t_var (e := (eP eI eI)) (a := x_17) rfl)) fun found_18 =>
     s_passB (c := found_18) [false, true, false] rfl)) fun s_16 =>
     s_last (s_ret (t_var (e := (eP eI eI)) (a := s_16) rfl)))

def s_law_1 (draws_20 : (List Int)) (k_49 : Int) (p_57 : (Int × Int)) (worths_62 : (List Int)) (x_78 : Str) (s_116 : Unit) (x_117 : Int) : Res (Fl Unit Bool) :=
  (((((((((TyC.s__law_mix draws_20 ((k_49 + (20 : Int)) + x_117) (1000001 : Int)).bind fun t_120 => (((x_price worths_62 p_57.2).bind fun t_119 => Res.ok ((t_119 :: ([] : List Int))))).bind fun t_121 => Res.ok ((t_120 :: t_121)))).bind fun t_122 => Res.ok (((1000000 : Int) :: t_122)))).bind fun t_123 => Res.ok (((0 : Int) :: t_123)))).bind fun t_124 => (TyC.s__law_mix draws_20 ((k_49 + (30 : Int)) + x_117) (4 : Int)).bind fun t_125 => atR t_124 t_125)).bind fun (lie_118 : Int) =>
  (((catR (cutL worths_62 none (some (x_117))) (lie_118 :: ([] : List Int))).bind fun t_127 => catR t_127 (cutL worths_62 (some ((x_117 + (1 : Int)))) none))).bind fun (told_126 : (List Int)) =>
  (((x_gain worths_62 worths_62 p_57.2 x_78 x_117).bind fun t_129 => (x_gain worths_62 told_126 p_57.2 x_78 x_117).bind fun t_130 => Res.ok ((t_129, t_130, ())))).bind fun (p_128 : ((Int × Int) × (Int × Int) × Unit)) =>
  (((((s_gain_with worths_62 p_57.2 x_78 x_117 lie_118).bind fun t_136 => Res.ok ((!decide (t_136 = p_128.2.1))))).bind fun t_137 => (if t_137 = true then Res.ok true else ((((((atR worths_62 x_117).bind fun t_133 => s_gain_with worths_62 p_57.2 x_78 x_117 t_133)).bind fun t_134 => Res.ok ((!decide (t_134 = p_128.1))))).bind fun t_135 => (if t_135 = true then Res.ok true else ((mulR p_128.2.1.1 p_128.1.2).bind fun t_131 => (mulR p_128.1.1 p_128.2.1.2).bind fun t_132 => Res.ok ((decide (t_132 < t_131))))))))).bind fun b => if b = true then
  ((Res.ok (false)).bind fun t => Res.ok (Fl.ret t))
  else Res.ok (Fl.nx (()))
def s_law_2 (draws_20 : (List Int)) (k_49 : Int) (p_57 : (Int × Int)) (worths_62 : (List Int)) (income_74 : Int) (s_77 : Unit) (x_78 : Str) : Res (Fl Unit Bool) :=
  (((x_weights_of p_57.1 p_57.2 x_78).bind fun t_83 => (((rngR p_57.1).bind fun t_82 => compR (fun (t_80 : Int) => Res.ok (true)) (fun (t_80 : Int) => x_back worths_62 p_57.2 x_78 t_80) t_82)).bind fun t_84 => Res.ok ((t_83, t_84, ())))).bind fun (p_79 : ((List (Int × Int)) × (List (Int × Int)) × Unit)) =>
  (s__law_sum p_79.2.1).bind fun (whole_85 : (Int × Int)) =>
  (TyC.s__law_add (income_74, (1 : Int)) ((-whole_85.1), whole_85.2)).bind fun (rest_86 : (Int × Int)) =>
  (((((x_weights_of p_57.1 p_57.2 x_78).bind fun t_90 => Res.ok ((!decide (t_90 = p_79.1))))).bind fun t_91 => (if t_91 = true then Res.ok true else ((((x_given_back worths_62 p_57.2 x_78).bind fun t_88 => Res.ok ((!decide (t_88 = p_79.2.1))))).bind fun t_89 => (if t_89 = true then Res.ok true else ((x_left_over worths_62 p_57.2 x_78).bind fun t_87 => Res.ok ((!decide (t_87 = rest_86))))))))).bind fun b => if b = true then
  ((Res.ok (false)).bind fun t => Res.ok (Fl.ret t))
  else ((if (decide (rest_86.1 < (0 : Int))) = true then Res.ok true else ((ofO (minL (List.map (fun (one_92 : (Int × Int)) => one_92.1) p_79.2.1))).bind fun t_94 => Res.ok ((decide (t_94 < (0 : Int))))))).bind fun b => if b = true then
  ((Res.ok (false)).bind fun t => Res.ok (Fl.ret t))
  else seqF ((((eqR (eS x_78) (eS ("even" : Str))).bind fun t_95 => (if t_95 = true then Res.ok ((decide ((p_57.2 + (2 : Int)) ≤ p_57.1))) else Res.ok false))).bind fun b => if b = true then
  ((Res.ok ((List.reverse (sortI worths_62)))).bind fun (order_97 : (List Int)) =>
  (((((((mulR p_57.2 (p_57.2 + (1 : Int))).bind fun t_100 => (((atR order_97 p_57.2).bind fun t_98 => (atR order_97 (p_57.2 + (1 : Int))).bind fun t_99 => Res.ok ((t_98 - t_99)))).bind fun t_101 => mulR t_100 t_101)).bind fun t_102 => TyC.s__law_low t_102 p_57.1)).bind fun t_103 => Res.ok ((!decide (rest_86 = t_103))))).bind fun b => if b = true then
  ((Res.ok (false)).bind fun t => Res.ok (Fl.ret t))
  else Res.ok (Fl.nx (())))
  else Res.ok (Fl.nx (()))) (fun t => Res.ok (Fl.ret t)) fun (s_96 : Unit) =>
  (((x_sets (p_57.1 - (1 : Int)) p_57.2).bind fun t_110 => (((((((rng2R p_57.2 p_57.1).bind fun t_107 => compR (fun (j_105 : Int) => Res.ok (true)) (fun (j_105 : Int) => x_sets (p_57.1 - (1 : Int)) j_105) t_107)).bind fun t_108 => Res.ok ((List.sum t_108)))).bind fun t_109 => Res.ok ((max (1 : Int) t_109)))).bind fun t_111 => TyC.s__law_low t_110 t_111)).bind fun (part_104 : (Int × Int)) =>
  (((eqR (eS x_78) (eS ("most" : Str))).bind fun t_115 => (if t_115 = true then (if (decide ((p_57.2 + (2 : Int)) ≤ p_57.1)) = true then ((mulR rest_86.1 part_104.2).bind fun t_113 => (((mulR part_104.1 income_74).bind fun t_112 => mulR t_112 rest_86.2)).bind fun t_114 => Res.ok ((decide (t_114 < t_113)))) else Res.ok false) else Res.ok false))).bind fun b => if b = true then
  ((Res.ok (false)).bind fun t => Res.ok (Fl.ret t))
  else (Res.ok (((decide (p_57.1 < (p_57.2 + (2 : Int)))) && ((!decide (p_79.1 = ([] : List (Int × Int)))) || (!decide (whole_85 = ((0 : Int), (1 : Int)))))))).bind fun b => if b = true then
  ((Res.ok (false)).bind fun t => Res.ok (Fl.ret t))
  else (rngR p_57.1).bind fun xs_138 => seqF (forR (s_law_1 draws_20 k_49 p_57 worths_62 x_78) (()) xs_138) (fun t => Res.ok (Fl.ret t)) fun (s_116 : Unit) =>
  Res.ok (Fl.nx (()))
def s_law_3 (draws_20 : (List Int)) (s_21 : Unit) (x_22 : Int) : Res (Fl Unit Bool) :=
  (((mulR (40 : Int) x_22).bind fun t_50 => Res.ok (((10 : Int) + t_50)))).bind fun (k_49 : Int) =>
  (((((TyC.s__law_mix draws_20 k_49 (10 : Int)).bind fun t_51 => Res.ok (((1 : Int) + t_51)))).bind fun t_55 => (((((((TyC.s__law_mix draws_20 (k_49 + (2 : Int)) (2 : Int)).bind fun t_52 => atR ((8 : Int) :: ((3 : Int) :: ([] : List Int))) t_52)).bind fun t_53 => TyC.s__law_mix draws_20 (k_49 + (1 : Int)) t_53)).bind fun t_54 => Res.ok (((1 : Int) + t_54)))).bind fun t_56 => Res.ok ((t_55, t_56)))).bind fun (p_57 : (Int × Int)) =>
  (((TyC.s__law_mix draws_20 (k_49 + (3 : Int)) (1000 : Int)).bind fun t_58 => (TyC.s__law_mix draws_20 (k_49 + (4 : Int)) (100000 : Int)).bind fun t_59 => Res.ok ((t_58, t_59)))).bind fun (p_60 : (Int × Int)) =>
  (TyC.s__law_mix draws_20 (k_49 + (5 : Int)) (4 : Int)).bind fun (kind_61 : Int) =>
  (((rngR p_57.1).bind fun t_73 => compR (fun (t_63 : Int) => Res.ok (true)) (fun (t_63 : Int) => ((((TyC.s__law_mix draws_20 ((k_49 + (6 : Int)) + t_63) (1000001 : Int)).bind fun t_69 => (((((((mulR p_60.1 (p_57.1 - t_63)).bind fun t_65 => Res.ok ((p_60.2 + t_65)))).bind fun t_66 => (((TyC.s__law_mix draws_20 ((k_49 + (6 : Int)) + t_63) (5 : Int)).bind fun t_64 => Res.ok ((t_64 :: ([] : List Int))))).bind fun t_67 => Res.ok ((t_66 :: t_67)))).bind fun t_68 => Res.ok ((p_60.2 :: t_68)))).bind fun t_70 => Res.ok ((t_69 :: t_70)))).bind fun t_71 => atR t_71 kind_61)) t_73)).bind fun (worths_62 : (List Int)) =>
  (((x_price worths_62 p_57.2).bind fun t_75 => mulR t_75 (min p_57.1 p_57.2))).bind fun (income_74 : Int) =>
  (((x_income worths_62 p_57.2).bind fun t_76 => Res.ok ((!decide (t_76 = income_74))))).bind fun b => if b = true then
  ((Res.ok (false)).bind fun t => Res.ok (Fl.ret t))
  else (Res.ok ((("even" : Str) :: (("most" : Str) :: ([] : List Str))))).bind fun xs_139 => seqF (forR (s_law_2 draws_20 k_49 p_57 worths_62 income_74) (()) xs_139) (fun t => Res.ok (Fl.ret t)) fun (s_77 : Unit) =>
  Res.ok (Fl.nx (()))
def s_law (script_0 : (List Int)) : Res Bool :=
  (TyC.s__law_draws script_0).bind fun (draws_20 : (List Int)) =>
  (rngR (3 : Int)).bind fun xs_140 => seqF (forR (s_law_3 draws_20) (()) xs_140) (fun t => Res.ok t) fun (s_21 : Unit) =>
  (((m__law_word [(eI (0 : Int)), ((eL eI) ([] : List Int)), (eI (9 : Int)), (eS ("x" : Str)), (eI (0 : Int)), (eI (0 : Int))]).bind fun t_29 => (((((((repR ((1 : Int) :: ([] : List Int)) (11 : Int)).bind fun t_25 => Res.ok (((eL eI) t_25)))).bind fun t_26 => m__law_word [(eI (0 : Int)), t_26, (eI (9 : Int)), (eS ("x" : Str)), (eI (0 : Int)), (eI (0 : Int))])).bind fun t_27 => (((m__law_word [(eI (0 : Int)), ((eL eI) ((1 : Int) :: ((-(1 : Int)) :: ([] : List Int)))), (eI (9 : Int)), (eS ("x" : Str)), (eI (0 : Int)), (eI (0 : Int))]).bind fun t_24 => Res.ok ((t_24 :: ([] : List PyData))))).bind fun t_28 => Res.ok ((t_27 :: t_28)))).bind fun t_30 => Res.ok ((t_29 :: t_30)))).bind fun (bads_23 : (List PyData)) =>
  (((((compR (fun (pieces_32 : Int) => Res.ok (true)) (fun (pieces_32 : Int) => m__law_word [(eI (0 : Int)), ((eL eI) ((1 : Int) :: ((2 : Int) :: ([] : List Int)))), (eI pieces_32), (eS ("x" : Str)), (eI (0 : Int)), (eI (0 : Int))]) ((9 : Int) :: ((0 : Int) :: ((1 : Int) :: ([] : List Int))))).bind fun t_34 => catR bads_23 t_34)).bind fun t_36 => (((m__law_word [(eI (1 : Int)), ((eL eI) ((1 : Int) :: ((2 : Int) :: ([] : List Int)))), (eI (1 : Int)), (eS ("x" : Str)), (eI (2 : Int)), (eI (-(1 : Int)))]).bind fun t_35 => Res.ok ((t_35 :: ([] : List PyData))))).bind fun t_37 => catR t_36 t_37)).bind fun (bads_31 : (List PyData)) =>
  (((((m__law_word [(eI (1 : Int)), ((eL eI) ((1 : Int) :: ((2 : Int) :: ([] : List Int)))), (eI (1 : Int)), (eS ("most" : Str)), (eI (2 : Int)), (eI (-(1 : Int)))]).bind fun t_40 => (((m__law_word [(eI (1 : Int)), ((eL eI) ((1 : Int) :: ((2 : Int) :: ([] : List Int)))), (eI (1 : Int)), (eS ("even" : Str)), (eI (1 : Int)), (eI (-(1 : Int)))]).bind fun t_39 => Res.ok ((t_39 :: ([] : List PyData))))).bind fun t_41 => Res.ok ((t_40 :: t_41)))).bind fun t_42 => catR bads_31 t_42)).bind fun (bads_38 : (List PyData)) =>
  (((compR (fun (x_44 : (Int × Int)) => Res.ok (true)) (fun (x_44 : (Int × Int)) => m__law_word [(eI (2 : Int)), (eI x_44.1), (eI x_44.2), (eS ("x" : Str)), (eI (0 : Int)), (eI (0 : Int))]) (((0 : Int), (9 : Int)) :: (((11 : Int), (9 : Int)) :: (((5 : Int), (9 : Int)) :: (((5 : Int), (8 : Int)) :: ([] : List (Int × Int))))))).bind fun t_46 => catR bads_38 t_46)).bind fun (bads_43 : (List PyData)) =>
  (Res.ok (((("book" : Str), (0 : Int)) :: ((("book" : Str), (11 : Int)) :: ((("worths" : Str), (1 : Int)) :: ((("pieces" : Str), (9 : Int)) :: ((("pieces" : Str), (0 : Int)) :: ((("word" : Str), (0 : Int)) :: ((("word" : Str), (0 : Int)) :: ((("bidder" : Str), (2 : Int)) :: ((("worths" : Str), (-(1 : Int))) :: ([] : List (Str × Int))))))))))))).bind fun (due_47 : (List (Str × Int))) =>
  ((catR due_47 ((("book" : Str), (0 : Int)) :: ((("book" : Str), (11 : Int)) :: ((("pieces" : Str), (9 : Int)) :: ((("word" : Str), (0 : Int)) :: ([] : List (Str × Int))))))).bind fun t_48 => eqR ((eL eD) bads_43) ((eL (eP eS eI)) t_48))
theorem t_law (script_0 : (List Int)) : RR (s_law script_0) eBo (m_law [(eScr script_0)]) := by
  unfold s_law
  exact t_def (n := 1) (j := 28) rfl rfl
     (s_set (e := (eL eI)) rfl (t_f1 t__law_draws (t_var (e := eScr) (a := script_0) rfl)) fun draws_20 =>
     s_forF (E := fun (s_21 : Unit) => ([none, some (.val ((eL eI) draws_20)), none, none, none, none, none, none, none, none, none, none, none, none, none, none, none, none, none, none, none, none, none, none, none, none, none, none, none] : Pn)) (e := eI) (eR := eBo) rfl [false, true, false, false, false, false, false, false, false, false, false, false, false, false, false, false, false, false, false, false, false, false, false, false, false, false, false, false, false] (t_b1 b_rg1 (t_i)) rfl (fun s_21 x_22 => tg_set) (fun s_21 x_22 =>
     s_set (e := eI) rfl (t_e2 op_add (t_i) (t_e2 op_mul (t_i) (t_varB (e := eI) (a := x_22) rfl))) fun k_49 =>
     s_asg (e := (eP eI eI)) rfl (t_tup2 (t_e2 op_add (t_i) (t_f3 t__law_mix (t_var (e := (eL eI)) (a := draws_20) rfl) (t_var (e := eI) (a := k_49) rfl) (t_i))) (t_e2 op_add (t_i) (t_f3 t__law_mix (t_var (e := (eL eI)) (a := draws_20) rfl) (t_e2 op_add (t_varB (e := eI) (a := k_49) rfl) (t_i)) (t_e2 (op_ix (e := eI)) (t_list (t_lcons (t_i) (t_lcons (t_i) (t_lnil)))) (t_f3 t__law_mix (t_var (e := (eL eI)) (a := draws_20) rfl) (t_e2 op_add (t_varB (e := eI) (a := k_49) rfl) (t_i)) (t_i)))))) (fun p_57 => tg_unp rfl (tg_cons (tg_set) (tg_cons (tg_set) (tg_nil)))) fun p_57 =>
     s_asg (e := (eP eI eI)) rfl (t_tup2 (t_f3 t__law_mix (t_var (e := (eL eI)) (a := draws_20) rfl) (t_e2 op_add (t_varB (e := eI) (a := k_49) rfl) (t_i)) (t_i)) (t_f3 t__law_mix (t_var (e := (eL eI)) (a := draws_20) rfl) (t_e2 op_add (t_varB (e := eI) (a := k_49) rfl) (t_i)) (t_i))) (fun p_60 => tg_unp rfl (tg_cons (tg_set) (tg_cons (tg_set) (tg_nil)))) fun p_60 =>
     s_set (e := eI) rfl (t_f3 t__law_mix (t_var (e := (eL eI)) (a := draws_20) rfl) (t_e2 op_add (t_varB (e := eI) (a := k_49) rfl) (t_i)) (t_i)) fun kind_61 =>
     s_set (e := (eL eI)) rfl (t_list (t_comp (e := eI) (e' := eI) _ (fun (t_63 : Int) => Res.ok (true)) (fun (t_63 : Int) => ((((TyC.s__law_mix draws_20 ((k_49 + (6 : Int)) + t_63) (1000001 : Int)).bind fun t_69 => (((((((mulR p_60.1 (p_57.1 - t_63)).bind fun t_65 => Res.ok ((p_60.2 + t_65)))).bind fun t_66 => (((TyC.s__law_mix draws_20 ((k_49 + (6 : Int)) + t_63) (5 : Int)).bind fun t_64 => Res.ok ((t_64 :: ([] : List Int))))).bind fun t_67 => Res.ok ((t_66 :: t_67)))).bind fun t_68 => Res.ok ((p_60.2 :: t_68)))).bind fun t_70 => Res.ok ((t_69 :: t_70)))).bind fun t_71 => atR t_71 kind_61)) (t_b1 b_rg1 (t_varB (e := eI) (a := p_57.1) rfl)) (fun t_63 => tg_set) (fun t_63 => t_true) (fun t_63 => t_e2 (op_ix (e := eI)) (t_list (t_lcons (t_f3 t__law_mix (t_var (e := (eL eI)) (a := draws_20) rfl) (t_e2 op_add (t_e2 op_add (t_varB (e := eI) (a := k_49) rfl) (t_i)) (t_varB (e := eI) (a := t_63) rfl)) (t_i)) (t_lcons (t_var (e := eI) (a := p_60.2) rfl) (t_lcons (t_e2 op_add (t_varB (e := eI) (a := p_60.2) rfl) (t_e2 op_mul (t_varB (e := eI) (a := p_60.1) rfl) (t_e2 op_sub (t_varB (e := eI) (a := p_57.1) rfl) (t_varB (e := eI) (a := t_63) rfl)))) (t_lcons (t_f3 t__law_mix (t_var (e := (eL eI)) (a := draws_20) rfl) (t_e2 op_add (t_e2 op_add (t_varB (e := eI) (a := k_49) rfl) (t_i)) (t_varB (e := eI) (a := t_63) rfl)) (t_i)) (t_lnil)))))) (t_varB (e := eI) (a := kind_61) rfl)))) fun worths_62 =>
     s_set (e := eI) rfl (t_e2 op_mul (t_f2 t__law_price (t_var (e := (eL eI)) (a := worths_62) rfl) (t_var (e := eI) (a := p_57.2) rfl)) (t_b2 b_min2 (t_varB (e := eI) (a := p_57.1) rfl) (t_varB (e := eI) (a := p_57.2) rfl))) fun income_74 =>
     s_if rfl (t_tb (t_cmp ci_ne (t_f2 t_income_of (t_list (t_b1 (b_list (e := eI)) (t_varB (e := (eL eI)) (a := worths_62) rfl))) (t_var (e := eI) (a := p_57.2) rfl)) (t_varB (e := eI) (a := income_74) rfl)))
     (s_retF (t_bl))
     (s_skip (s_last (s_forF (E := fun (s_77 : Unit) => ([none, some (.val ((eL eI) draws_20)), none, some (.val (eI k_49)), some (.val (eI p_57.1)), some (.val (eI p_57.2)), none, none, none, some (.val ((eL eI) worths_62)), some (.val (eI income_74)), none, none, none, none, none, none, none, none, none, none, none, none, none, none, none, none, none, none] : Pn)) (e := eS) (eR := eBo) rfl [false, true, false, true, true, true, false, false, false, true, true, false, false, false, false, false, false, false, false, false, false, false, false, false, false, false, false, false, false] (t_e1 (op_it (e := eS)) (t_list (t_lcons (t_st) (t_lcons (t_st) (t_lnil))))) rfl (fun s_77 x_78 => tg_set) (fun s_77 x_78 =>
     s_par rfl (tm_val (e := (eL (eP eI eI))) (t_f3 t__law_weights (t_var (e := eI) (a := p_57.1) rfl) (t_var (e := eI) (a := p_57.2) rfl) (t_var (e := eS) (a := x_78) rfl)) (tm_val (e := (eL (eP eI eI))) (t_list (t_comp (e := eI) (e' := (eP eI eI)) _ (fun (t_80 : Int) => Res.ok (true)) (fun (t_80 : Int) => x_back worths_62 p_57.2 x_78 t_80) (t_b1 b_rg1 (t_varB (e := eI) (a := p_57.1) rfl)) (fun t_80 => tg_set) (fun t_80 => t_true) (fun t_80 => t_f4 t__law_back (t_var (e := (eL eI)) (a := worths_62) rfl) (t_var (e := eI) (a := p_57.2) rfl) (t_var (e := eS) (a := x_78) rfl) (t_var (e := eI) (a := t_80) rfl)))) (tm_nil))) (fun _ => rfl) fun p_79 =>
     s_set (e := (eP eI eI)) rfl (t_f1 t__law_sum (t_var (e := (eL (eP eI eI))) (a := p_79.2.1) rfl)) fun whole_85 =>
     s_set (e := (eP eI eI)) rfl (t_f2 t__law_add (t_tup2 (t_var (e := eI) (a := income_74) rfl) (t_i)) (t_tup2 (t_e1 op_neg (t_p0 (t_varB (e := (eP eI eI)) (a := whole_85) rfl))) (t_p1 (t_varB (e := (eP eI eI)) (a := whole_85) rfl)))) fun rest_86 =>
     s_if rfl (t_or (t_tb (t_e2 (op_ne (eL (eP eI eI))) (t_f3 t_weights_of (t_var (e := eI) (a := p_57.1) rfl) (t_var (e := eI) (a := p_57.2) rfl) (t_var (e := eS) (a := x_78) rfl)) (t_varB (e := (eL (eP eI eI))) (a := p_79.1) rfl))) (t_or (t_tb (t_e2 (op_ne (eL (eP eI eI))) (t_f3 t_given_back (t_list (t_b1 (b_list (e := eI)) (t_varB (e := (eL eI)) (a := worths_62) rfl))) (t_var (e := eI) (a := p_57.2) rfl) (t_var (e := eS) (a := x_78) rfl)) (t_varB (e := (eL (eP eI eI))) (a := p_79.2.1) rfl))) (t_tb (t_e2 (op_ne (eP eI eI)) (t_f3 t_left_over (t_list (t_b1 (b_list (e := eI)) (t_varB (e := (eL eI)) (a := worths_62) rfl))) (t_var (e := eI) (a := p_57.2) rfl) (t_var (e := eS) (a := x_78) rfl)) (t_varB (e := (eP eI eI)) (a := rest_86) rfl)))))
     (s_retF (t_bl))
     (s_skip (s_if rfl (t_or (t_tb (t_cmp ci_lt (t_p0 (t_varB (e := (eP eI eI)) (a := rest_86) rfl)) (t_i))) (t_tb (t_cmp ci_lt (t_b1 b_min (t_list (t_compM (e := (eP eI eI)) (e' := eI) _ (fun (one_92 : (Int × Int)) => one_92.1) (t_e1 (op_it (e := (eP eI eI))) (t_varB (e := (eL (eP eI eI))) (a := p_79.2.1) rfl)) (fun one_92 => tg_set) (fun one_92 => t_p0 (t_varB (e := (eP eI eI)) (a := one_92) rfl))))) (t_i))))
     (s_retF (t_bl))
     (s_skip (s_joinF (E := fun (s_96 : Unit) => ([none, some (.val ((eL eI) draws_20)), none, some (.val (eI k_49)), some (.val (eI p_57.1)), some (.val (eI p_57.2)), none, none, none, some (.val ((eL eI) worths_62)), some (.val (eI income_74)), some (.val (eS x_78)), some (.val ((eL (eP eI eI)) p_79.1)), none, some (.val ((eP eI eI) whole_85)), some (.val ((eP eI eI) rest_86)), none, none, none, none, none, none, none, none, none, none, none, none, none] : Pn)) (e := eBo) rfl (s_last (s_if rfl (t_and (t_tb (t_e2 (op_eqR eS eS) (t_varB (e := eS) (a := x_78) rfl) (t_st))) (t_tb (t_cmp ci_ge (t_varB (e := eI) (a := p_57.1) rfl) (t_e2 op_add (t_varB (e := eI) (a := p_57.2) rfl) (t_i)))))
     (s_assoc (s_set (e := (eL eI)) rfl (t_list (t_e1 (op_rev (e := eI)) (t_list (t_b1 b_sort (t_varB (e := (eL eI)) (a := worths_62) rfl))))) fun order_97 =>
     s_if rfl (t_tb (t_e2 (op_ne (eP eI eI)) (t_varB (e := (eP eI eI)) (a := rest_86) rfl) (t_f2 t__law_low (t_e2 op_mul (t_e2 op_mul (t_varB (e := eI) (a := p_57.2) rfl) (t_e2 op_add (t_varB (e := eI) (a := p_57.2) rfl) (t_i))) (t_e2 op_sub (t_e2 (op_ix (e := eI)) (t_varB (e := (eL eI)) (a := order_97) rfl) (t_varB (e := eI) (a := p_57.2) rfl)) (t_e2 (op_ix (e := eI)) (t_varB (e := (eL eI)) (a := order_97) rfl) (t_e2 op_add (t_varB (e := eI) (a := p_57.2) rfl) (t_i))))) (t_var (e := eI) (a := p_57.1) rfl))))
     (s_retNF (t_bl))
     (s_skip (s_passNF (c := ()) [false, true, false, true, true, true, false, false, false, true, true, true, true, false, true, true, false, false, false, false, false, false, false, false, false, false, false, false, false] rfl))))
     (s_skip (s_passNF (c := ()) [false, true, false, true, true, true, false, false, false, true, true, true, true, false, true, true, false, false, false, false, false, false, false, false, false, false, false, false, false] rfl)))) retF fun s_96 =>
     s_set (e := (eP eI eI)) rfl (t_f2 t__law_low (t_f2 t__law_sets (t_e2 op_sub (t_varB (e := eI) (a := p_57.1) rfl) (t_i)) (t_var (e := eI) (a := p_57.2) rfl)) (t_b2 b_max2 (t_i) (t_b1 b_sum (t_list (t_comp (e := eI) (e' := eI) _ (fun (j_105 : Int) => Res.ok (true)) (fun (j_105 : Int) => x_sets (p_57.1 - (1 : Int)) j_105) (t_b2 b_rg2 (t_varB (e := eI) (a := p_57.2) rfl) (t_varB (e := eI) (a := p_57.1) rfl)) (fun j_105 => tg_set) (fun j_105 => t_true) (fun j_105 => t_f2 t__law_sets (t_e2 op_sub (t_varB (e := eI) (a := p_57.1) rfl) (t_i)) (t_var (e := eI) (a := j_105) rfl))))))) fun part_104 =>
     s_if rfl (t_and (t_tb (t_e2 (op_eqR eS eS) (t_varB (e := eS) (a := x_78) rfl) (t_st))) (t_and (t_tb (t_cmp ci_ge (t_varB (e := eI) (a := p_57.1) rfl) (t_e2 op_add (t_varB (e := eI) (a := p_57.2) rfl) (t_i)))) (t_tb (t_cmp ci_gt (t_e2 op_mul (t_p0 (t_varB (e := (eP eI eI)) (a := rest_86) rfl)) (t_p1 (t_varB (e := (eP eI eI)) (a := part_104) rfl))) (t_e2 op_mul (t_e2 op_mul (t_p0 (t_varB (e := (eP eI eI)) (a := part_104) rfl)) (t_varB (e := eI) (a := income_74) rfl)) (t_p1 (t_varB (e := (eP eI eI)) (a := rest_86) rfl)))))))
     (s_retF (t_bl))
     (s_skip (s_if rfl (t_andP (t_tb (t_cmp ci_lt (t_varB (e := eI) (a := p_57.1) rfl) (t_e2 op_add (t_varB (e := eI) (a := p_57.2) rfl) (t_i)))) (t_orP (t_tb (t_e2 (op_ne (eL (eP eI eI))) (t_varB (e := (eL (eP eI eI))) (a := p_79.1) rfl) (t_list (t_lnil)))) (t_tb (t_e2 (op_ne (eP eI eI)) (t_varB (e := (eP eI eI)) (a := whole_85) rfl) (t_tup2 (t_i) (t_i))))))
     (s_retF (t_bl))
     (s_skip (s_last (s_forF (E := fun (s_116 : Unit) => ([none, some (.val ((eL eI) draws_20)), none, some (.val (eI k_49)), some (.val (eI p_57.1)), some (.val (eI p_57.2)), none, none, none, some (.val ((eL eI) worths_62)), some (.val (eI income_74)), some (.val (eS x_78)), none, none, none, none, none, none, none, none, none, none, none, none, none, none, none, none, none] : Pn)) (e := eI) (eR := eBo) rfl [false, true, false, true, true, true, false, false, false, true, true, true, false, false, false, false, false, false, false, false, false, false, false, false, false, false, false, false, false] (t_b1 b_rg1 (t_varB (e := eI) (a := p_57.1) rfl)) rfl (fun s_116 x_117 => tg_set) (fun s_116 x_117 =>
     s_set (e := eI) rfl (t_e2 (op_ix (e := eI)) (t_list (t_lcons (t_i) (t_lcons (t_i) (t_lcons (t_f3 t__law_mix (t_var (e := (eL eI)) (a := draws_20) rfl) (t_e2 op_add (t_e2 op_add (t_varB (e := eI) (a := k_49) rfl) (t_i)) (t_varB (e := eI) (a := x_117) rfl)) (t_i)) (t_lcons (t_f2 t__law_price (t_var (e := (eL eI)) (a := worths_62) rfl) (t_var (e := eI) (a := p_57.2) rfl)) (t_lnil)))))) (t_f3 t__law_mix (t_var (e := (eL eI)) (a := draws_20) rfl) (t_e2 op_add (t_e2 op_add (t_varB (e := eI) (a := k_49) rfl) (t_i)) (t_varB (e := eI) (a := x_117) rfl)) (t_i))) fun lie_118 =>
     s_set (e := (eL eI)) rfl (t_e2 (op_cat (e := eI)) (t_e2 (op_cat (e := eI)) (t_slT (t_varB (e := (eL eI)) (a := worths_62) rfl) (t_none) (t_asI (t_varB (e := eI) (a := x_117) rfl))) (t_list (t_lcons (t_var (e := eI) (a := lie_118) rfl) (t_lnil)))) (t_slT (t_varB (e := (eL eI)) (a := worths_62) rfl) (t_asI (t_e2 op_add (t_varB (e := eI) (a := x_117) rfl) (t_i))) (t_none))) fun told_126 =>
     s_par rfl (tm_val (e := (eP eI eI)) (t_f5 t__law_gain (t_var (e := (eL eI)) (a := worths_62) rfl) (t_var (e := (eL eI)) (a := worths_62) rfl) (t_var (e := eI) (a := p_57.2) rfl) (t_var (e := eS) (a := x_78) rfl) (t_var (e := eI) (a := x_117) rfl)) (tm_val (e := (eP eI eI)) (t_f5 t__law_gain (t_var (e := (eL eI)) (a := worths_62) rfl) (t_var (e := (eL eI)) (a := told_126) rfl) (t_var (e := eI) (a := p_57.2) rfl) (t_var (e := eS) (a := x_78) rfl) (t_var (e := eI) (a := x_117) rfl)) (tm_nil))) (fun _ => rfl) fun p_128 =>
     s_last (s_if rfl (t_or (t_tb (t_e2 (op_ne (eP eI eI)) (t_f5 t_gain_with (t_list (t_b1 (b_list (e := eI)) (t_varB (e := (eL eI)) (a := worths_62) rfl))) (t_var (e := eI) (a := p_57.2) rfl) (t_var (e := eS) (a := x_78) rfl) (t_var (e := eI) (a := x_117) rfl) (t_var (e := eI) (a := lie_118) rfl)) (t_varB (e := (eP eI eI)) (a := p_128.2.1) rfl))) (t_or (t_tb (t_e2 (op_ne (eP eI eI)) (t_f5 t_gain_with (t_list (t_b1 (b_list (e := eI)) (t_varB (e := (eL eI)) (a := worths_62) rfl))) (t_var (e := eI) (a := p_57.2) rfl) (t_var (e := eS) (a := x_78) rfl) (t_var (e := eI) (a := x_117) rfl) (t_e2 (op_ix (e := eI)) (t_varB (e := (eL eI)) (a := worths_62) rfl) (t_varB (e := eI) (a := x_117) rfl))) (t_varB (e := (eP eI eI)) (a := p_128.1) rfl))) (t_tb (t_cmp ci_gt (t_e2 op_mul (t_p0 (t_varB (e := (eP eI eI)) (a := p_128.2.1) rfl)) (t_p1 (t_varB (e := (eP eI eI)) (a := p_128.1) rfl))) (t_e2 op_mul (t_p0 (t_varB (e := (eP eI eI)) (a := p_128.1) rfl)) (t_p1 (t_varB (e := (eP eI eI)) (a := p_128.2.1) rfl)))))))
     (s_retF (t_bl))
     (s_skip (s_passF (c := ()) [false, true, false, true, true, true, false, false, false, true, true, true, false, false, false, false, false, false, false, false, false, false, false, false, false, false, false, false, false] rfl)))) retF fun s_116 =>
     s_passF (c := ()) [false, true, false, true, true, true, false, false, false, true, true, false, false, false, false, false, false, false, false, false, false, false, false, false, false, false, false, false, false] rfl)))))))))) retF fun s_77 =>
     s_passF (c := ()) [false, true, false, false, false, false, false, false, false, false, false, false, false, false, false, false, false, false, false, false, false, false, false, false, false, false, false, false, false] rfl)))) retT fun s_21 =>
     s_set (e := (eL eD)) rfl (t_list (t_lcons (t_f6 (s := fun a0 a1 a2 a3 a4 a5 => m__law_word [a0, a1, a2, a3, a4, a5]) (ec := eD) (fun _ _ _ _ _ _ => RR.dyn _) (t_dyn (e := eI) (t_i)) (t_dyn (e := (eL eI)) (t_list (t_lnil))) (t_dyn (e := eI) (t_i)) (t_dyn (e := eS) (t_st)) (t_dyn (e := eI) (t_i)) (t_dyn (e := eI) (t_i))) (t_lcons (t_f6 (s := fun a0 a1 a2 a3 a4 a5 => m__law_word [a0, a1, a2, a3, a4, a5]) (ec := eD) (fun _ _ _ _ _ _ => RR.dyn _) (t_dyn (e := eI) (t_i)) (t_dyn (e := (eL eI)) (t_e2 (op_rep (e := eI)) (t_list (t_lcons (t_i) (t_lnil))) (t_i))) (t_dyn (e := eI) (t_i)) (t_dyn (e := eS) (t_st)) (t_dyn (e := eI) (t_i)) (t_dyn (e := eI) (t_i))) (t_lcons (t_f6 (s := fun a0 a1 a2 a3 a4 a5 => m__law_word [a0, a1, a2, a3, a4, a5]) (ec := eD) (fun _ _ _ _ _ _ => RR.dyn _) (t_dyn (e := eI) (t_i)) (t_dyn (e := (eL eI)) (t_list (t_lcons (t_i) (t_lcons (t_e1 op_neg (t_i)) (t_lnil))))) (t_dyn (e := eI) (t_i)) (t_dyn (e := eS) (t_st)) (t_dyn (e := eI) (t_i)) (t_dyn (e := eI) (t_i))) (t_lnil))))) fun bads_23 =>
     s_set (e := (eL eD)) rfl (t_e2 (op_cat (e := eD)) (t_e2 (op_cat (e := eD)) (t_varB (e := (eL eD)) (a := bads_23) rfl) (t_list (t_comp (e := eI) (e' := eD) _ (fun (pieces_32 : Int) => Res.ok (true)) (fun (pieces_32 : Int) => m__law_word [(eI (0 : Int)), ((eL eI) ((1 : Int) :: ((2 : Int) :: ([] : List Int)))), (eI pieces_32), (eS ("x" : Str)), (eI (0 : Int)), (eI (0 : Int))]) (t_e1 (op_it (e := eI)) (t_list (t_lcons (t_i) (t_lcons (t_i) (t_lcons (t_i) (t_lnil)))))) (fun pieces_32 => tg_set) (fun pieces_32 => t_true) (fun pieces_32 => t_f6 (s := fun a0 a1 a2 a3 a4 a5 => m__law_word [a0, a1, a2, a3, a4, a5]) (ec := eD) (fun _ _ _ _ _ _ => RR.dyn _) (t_dyn (e := eI) (t_i)) (t_dyn (e := (eL eI)) (t_list (t_lcons (t_i) (t_lcons (t_i) (t_lnil))))) (t_dyn (e := eI) (t_var (e := eI) (a := pieces_32) rfl)) (t_dyn (e := eS) (t_st)) (t_dyn (e := eI) (t_i)) (t_dyn (e := eI) (t_i)))))) (t_list (t_lcons (t_f6 (s := fun a0 a1 a2 a3 a4 a5 => m__law_word [a0, a1, a2, a3, a4, a5]) (ec := eD) (fun _ _ _ _ _ _ => RR.dyn _) (t_dyn (e := eI) (t_i)) (t_dyn (e := (eL eI)) (t_list (t_lcons (t_i) (t_lcons (t_i) (t_lnil))))) (t_dyn (e := eI) (t_i)) (t_dyn (e := eS) (t_st)) (t_dyn (e := eI) (t_i)) (t_dyn (e := eI) (t_e1 op_neg (t_i)))) (t_lnil)))) fun bads_31 =>
     s_set (e := (eL eD)) rfl (t_e2 (op_cat (e := eD)) (t_varB (e := (eL eD)) (a := bads_31) rfl) (t_list (t_lcons (t_f6 (s := fun a0 a1 a2 a3 a4 a5 => m__law_word [a0, a1, a2, a3, a4, a5]) (ec := eD) (fun _ _ _ _ _ _ => RR.dyn _) (t_dyn (e := eI) (t_i)) (t_dyn (e := (eL eI)) (t_list (t_lcons (t_i) (t_lcons (t_i) (t_lnil))))) (t_dyn (e := eI) (t_i)) (t_dyn (e := eS) (t_st)) (t_dyn (e := eI) (t_i)) (t_dyn (e := eI) (t_e1 op_neg (t_i)))) (t_lcons (t_f6 (s := fun a0 a1 a2 a3 a4 a5 => m__law_word [a0, a1, a2, a3, a4, a5]) (ec := eD) (fun _ _ _ _ _ _ => RR.dyn _) (t_dyn (e := eI) (t_i)) (t_dyn (e := (eL eI)) (t_list (t_lcons (t_i) (t_lcons (t_i) (t_lnil))))) (t_dyn (e := eI) (t_i)) (t_dyn (e := eS) (t_st)) (t_dyn (e := eI) (t_i)) (t_dyn (e := eI) (t_e1 op_neg (t_i)))) (t_lnil))))) fun bads_38 =>
     s_set (e := (eL eD)) rfl (t_e2 (op_cat (e := eD)) (t_varB (e := (eL eD)) (a := bads_38) rfl) (t_list (t_comp (e := (eP eI eI)) (e' := eD) _ (fun (x_44 : (Int × Int)) => Res.ok (true)) (fun (x_44 : (Int × Int)) => m__law_word [(eI (2 : Int)), (eI x_44.1), (eI x_44.2), (eS ("x" : Str)), (eI (0 : Int)), (eI (0 : Int))]) (t_e1 (op_it (e := (eP eI eI))) (t_list (t_lcons (t_tup2 (t_i) (t_i)) (t_lcons (t_tup2 (t_i) (t_i)) (t_lcons (t_tup2 (t_i) (t_i)) (t_lcons (t_tup2 (t_i) (t_i)) (t_lnil))))))) (fun x_44 => tg_unp rfl (tg_cons (tg_set) (tg_cons (tg_set) (tg_nil)))) (fun x_44 => t_true) (fun x_44 => t_f6 (s := fun a0 a1 a2 a3 a4 a5 => m__law_word [a0, a1, a2, a3, a4, a5]) (ec := eD) (fun _ _ _ _ _ _ => RR.dyn _) (t_dyn (e := eI) (t_i)) (t_dyn (e := eI) (t_var (e := eI) (a := x_44.1) rfl)) (t_dyn (e := eI) (t_var (e := eI) (a := x_44.2) rfl)) (t_dyn (e := eS) (t_st)) (t_dyn (e := eI) (t_i)) (t_dyn (e := eI) (t_i)))))) fun bads_43 =>
     s_set (e := (eL (eP eS eI))) rfl (t_list (t_lcons (t_tup2 (t_st) (t_i)) (t_lcons (t_tup2 (t_st) (t_i)) (t_lcons (t_tup2 (t_st) (t_i)) (t_lcons (t_tup2 (t_st) (t_i)) (t_lcons (t_tup2 (t_st) (t_i)) (t_lcons (t_tup2 (t_st) (t_i)) (t_lcons (t_tup2 (t_st) (t_i)) (t_lcons (t_tup2 (t_st) (t_i)) (t_lcons (t_tup2 (t_st) (t_e1 op_neg (t_i))) (t_lnil))))))))))) fun due_47 =>
     s_last (s_ret (t_e2 (op_eqR (eL eD) (eL (eP eS eI))) (t_varB (e := (eL eD)) (a := bads_43) rfl) (t_e2 (op_cat (e := (eP eS eI))) (t_varB (e := (eL (eP eS eI))) (a := due_47) rfl) (t_list (t_lcons (t_tup2 (t_st) (t_i)) (t_lcons (t_tup2 (t_st) (t_i)) (t_lcons (t_tup2 (t_st) (t_i)) (t_lcons (t_tup2 (t_st) (t_i)) (t_lnil))))))))))
end K03
/-! K03F: gain_with, sums. -/
namespace K03
open PySem PySem.Spec PyProof.Rows L2 Pf LawC K03M
theorem s_is_worth_ok (y : Int) : s_is_worth y = .ok (decide (0 ≤ y) && decide (y ≤ 1000000)) := rfl
theorem s_check_worths_ok {ws : List Int} (h : Ws ws) {m : Nat} (h3 : 1 ≤ m) (h4 : m ≤ 8) : s_check_worths ws m = .ok () := by
  unfold s_check_worths
  obtain ⟨g1, g2, g3⟩ := h
  have e1 : (!(decide ((1 : Int) ≤ (ws.length : Nat)) && decide (((ws.length : Nat) : Int) ≤ 10))) = false := by simp; omega
  have e2 : (!(decide ((1 : Int) ≤ (m : Nat)) && decide (((m : Nat) : Int) ≤ 8))) = false := by simp; omega
  simp only [Res.bind_ok, e1, e2, Bool.false_eq_true, if_false]
  rw [foldR_all]
  · rfl
  · intro p hp
    unfold enumI at hp
    obtain ⟨q, hq, rfl⟩ := List.mem_map.mp hp
    have hm : q.1 ∈ ws := by
      obtain ⟨i, hi, rfl⟩ := List.getElem_of_mem hq
      simp
    have := g3 _ hm
    simp only [s_check_worths_1, s_is_worth_ok, Res.bind_ok]
    rw [if_neg (by simp; omega)]
theorem s_check_word_ok (e : Bool) : s_check_word (wd e) = .ok () := by
  have key : ∀ r : Res Unit, (match r with | .ok () => true | _ => false) = true → r = .ok () := fun r h => by
    split at h
    · rfl
    · cases h
  cases e
  · exact key _ (by decide +kernel)
  · exact key _ (by decide +kernel)
theorem addR_low {L S N : Int} (hL : 0 < L) (hL2 : L < 2 ^ 40) (hS : S.natAbs < 2 ^ 110) (hN : N.natAbs < 2 ^ 110) : TyC.s__law_add (low S L) (low N L) = .ok (low (S + N) L) := by
  obtain ⟨d1, d2⟩ := low_den (n := S) hL
  obtain ⟨d3, d4⟩ := low_den (n := N) hL
  have n1 := low_num (n := S) hL
  have n2 := low_num (n := N) hL
  have k1 : (low S L).2 * (low N L).2 ≤ L * L := Int.mul_le_mul d2 d4 (by omega) (by omega)
  have k2 : L * L ≤ 2 ^ 40 * 2 ^ 40 := Int.mul_le_mul (by omega) (by omega) (by omega) (by decide)
  have k3 : (2 : Int) ^ 40 * 2 ^ 40 < 2 ^ 200 := by decide
  unfold TyC.s__law_add
  rw [if_pos ⟨okMul_of (k := 110) (l := 40) (by omega) (by omega), okMul_of (k := 110) (l := 40) (by omega) (by omega), okMul_of (k := 40) (l := 40) (by omega) (by omega), Int.mul_pos d1 d3, by omega⟩, add_low hL]
theorem s_sum_ok {L : Int} (hL : 0 < L) (hL2 : L < 2 ^ 40) (Ns : List Int) (hN : ∀ N ∈ Ns, N.natAbs < 2 ^ 100) (hl : Ns.length ≤ 100) : s__law_sum (Ns.map fun N => low N L) = .ok (low Ns.sum L) := by
  unfold s__law_sum
  have key : ∀ (Ns : List Int) (S : Int), (∀ N ∈ Ns, N.natAbs < 2 ^ 100) → S.natAbs + Ns.length * 2 ^ 100 < 2 ^ 110 → foldR s__law_sum_1 (low S L) (Ns.map fun N => low N L) = .ok (low (S + Ns.sum) L) := by
    intro Ns
    induction Ns with
    | nil => intro S _ _; simp
    | cons N Ns ih =>
      intro S h1 h2
      have h3 := h1 N (List.mem_cons_self ..)
      have h2' : S.natAbs + (Ns.length + 1) * 2 ^ 100 < 2 ^ 110 := by simpa using h2
      rw [List.map_cons, foldR_cons, s__law_sum_1, addR_low hL hL2 (by omega) (by omega)]
      simp only [Res.bind_ok]
      rw [ih (S + N) (fun M hM => h1 M (List.mem_cons_of_mem _ hM)) (by omega), List.sum_cons, Int.add_assoc]
  have h0 := low_0 hL
  have := key Ns 0 hN (by simp only [Int.natAbs_zero]; omega)
  rw [h0, Int.zero_add] at this
  simp only [Res.bind_ok]
  rw [this]; rfl
theorem back_at {ws : List Int} (h : Ws ws) {m : Nat} (e : Bool) (h3 : 1 ≤ m) (h4 : m ≤ 8) {k : Nat} (hk : k < ws.length) : x_back ws m (wd e) k = .ok (low (NB ws m e k) (LW ws.length m e)) := by
  unfold x_back
  rw [if_pos ⟨by omega, by omega⟩, onW_ok e _ h h3 h4]; rfl
theorem gainw_ok {ws : List Int} (h : Ws ws) {m : Nat} (e : Bool) (h3 : 1 ≤ m) (h4 : m ≤ 8) {k : Nat} (hk : k < ws.length) {y : Int} (hy : 0 ≤ y ∧ y ≤ 1000000) :
    s_gain_with ws m (wd e) k y = .ok (low (GN ws (ws.set k y) m e k) (LW ws.length m e)) := by
  have ht := set_Ws h (k := k) hy
  have hset : ws.take k ++ (y :: ws.drop (k + 1)) = ws.set k y := by rw [List.set_eq_take_append_cons_drop, if_pos hk]
  obtain ⟨told, he⟩ : ∃ told, told = ws.set k y := ⟨_, rfl⟩
  have hl : told.length = ws.length := by rw [he]; simp
  rw [← he] at ht hset ⊢
  have G := good e ht.1 ht.2.1 h3 h4
  have hb := back_at ht e h3 h4 (k := k) (by omega)
  have htop := mem_top (w := told) (m := m) (k := k) (by omega)
  have b1 := getD_bd ht.2.2 m
  have b2 : 0 ≤ ws.getD k 0 ∧ ws.getD k 0 ≤ 1000000 := by
    have : ws.getD k 0 = ws[k] := by simp [List.getD_eq_getElem?_getD, hk]
    rw [this]; exact h.2.2 _ (List.getElem_mem hk)
  have hwi : win told m k (ws.getD k 0) = if k ∈ (ord told).take m then ws.getD k 0 - (desc told).getD m 0 else 0 := by
    unfold win
    by_cases q : (K03M.ahead told k).length < m
    · rw [if_pos q, if_pos (htop.mpr q)]
    · rw [if_neg q, if_neg (fun z => q (htop.mp z))]
  obtain ⟨d1, d2⟩ := low_den (n := NB told m e k) G.pos
  have gs := G.small
  have o1 : okMul (win told m k (ws.getD k 0)) (low (NB told m e k) (LW told.length m e)).2 = true := okMul_of (k := 30) (l := 40) (by rw [hwi]; split <;> omega) (by omega)
  have pw : (2 : Int) ^ 40 < 2 ^ 200 := by decide
  have hgl := gain_low (N := NB told m e k) (w := win told m k (ws.getD k 0)) G.pos
  unfold GN s_gain_with
  rw [← hl]
  have hx1 : x_winners told m = .ok (((ord told).take m).map fun (i : Nat) => (i : Int)) := by unfold x_winners; rw [if_pos (by omega)]; simp
  have hx2 : x_price told m = .ok ((desc told).getD m 0) := by unfold x_price; rw [if_pos ⟨ht.2.1, by omega, by omega⟩]; simp
  have hmem : (k : Int) ∈ ((ord told).take m).map (fun (i : Nat) => (i : Int)) ↔ k ∈ (ord told).take m := by
    simp only [List.mem_map]
    exact ⟨fun ⟨i, h1, h2⟩ => by have : i = k := by omega
                                 exact this ▸ h1, fun h => ⟨k, h, rfl⟩⟩
  have c1 : (!(decide ((0 : Int) ≤ (k : Nat)) && decide (((k : Nat) : Int) < (told.length : Nat)))) = false := by simp; omega
  have c2 : (!(decide (0 ≤ y) && decide (y ≤ 1000000))) = false := by simp; omega
  have hk1 : cutL ws (some ((k : Int) + 1)) none = ws.drop (k + 1) := cutL_from ws (k + 1)
  have hll : told.length ≤ 16777216 := by have := ht.2.1; omega
  rw [s_check_worths_ok h h3 h4, s_check_word_ok]
  rw [← hl] at *
  simp only [Res.bind_ok, c1, c2, s_is_worth_ok, Bool.false_eq_true, if_false, cutL_to, hk1, List.append_nil, hset, lenR_ok hll, hb, hx1, atR_D 0 hk, hx2, decide_eq_true_eq, hmem]
  have hif : (if k ∈ (ord told).take m then Res.ok (ws.getD k 0 - (desc told).getD m 0) else Res.ok (0 : Int)) = .ok (win told m k (ws.getD k 0)) := by rw [hwi]; split <;> rfl
  rw [hif]
  simp only [Res.bind_ok, mulR_ok o1]
  rw [plainR_ok d1 (by omega), hgl]
end K03
/-! K03G: the law. -/
namespace K03
open PySem PySem.Spec PyProof.Rows L2 Pf LawC K03M
theorem mixE {ds : List Int} (h : Dr ds) {k many : Int} (hk : 0 ≤ k ∧ k < 1000000) (hm : 0 < many) : TyC.s__law_mix ds k many = .ok (mixF ds k many) := (mixR_ok h hk.1 hk.2 hm).1
theorem mixB {ds : List Int} (h : Dr ds) {k many : Int} (hk : 0 ≤ k ∧ k < 1000000) (hm : 0 < many) : 0 ≤ mixF ds k many ∧ mixF ds k many < many := (mixR_ok h hk.1 hk.2 hm).2
theorem GN_low {ws : List Int} (h : Ws ws) {m : Nat} (e : Bool) (h3 : 1 ≤ m) (h4 : m ≤ 8) {k : Nat} (hk : k < ws.length) {y : Int} (hy : 0 ≤ y ∧ y ≤ 1000000) : GN ws (ws.set k y) m e k ≤ GN ws ws m e k := by
  have ht := set_Ws h (k := k) hy
  unfold GN
  have e1 : (ws.set k y).eraseIdx k = ws.eraseIdx k := by
    rw [List.eraseIdx_eq_take_drop_succ, List.eraseIdx_eq_take_drop_succ, List.take_set_of_le (by omega), List.drop_set_of_lt (by omega)]
  have e2 : NB (ws.set k y) m e k = NB ws m e k := by unfold NB; rw [e1, List.length_set]
  have hn := no_lie (w := ws) (w' := ws.set k y) (k := k) (m := m) hk (by simpa using hk) h3 (fun y hy => (h.2.2 y hy).1) (fun y hy => (ht.2.2 y hy).1) e1
  have G := good e h.1 h.2.1 h3 h4
  rw [e2, List.length_set]
  have : win (ws.set k y) m k (ws.getD k 0) * LW ws.length m e ≤ win ws m k (ws.getD k 0) * LW ws.length m e := Int.mul_le_mul_of_nonneg_right hn (Int.le_of_lt G.pos)
  omega
theorem gain_at {ws told : List Int} (h : Ws ws) (ht : Ws told) (hl : told.length = ws.length) {m : Nat} (e : Bool) (h3 : 1 ≤ m) (h4 : m ≤ 8) {k : Nat} (hk : k < ws.length) : x_gain ws told m (wd e) k = .ok (low (GN ws told m e k) (LW ws.length m e)) := by
  unfold x_gain
  rw [if_pos ⟨by omega, by omega, ht, hl⟩, onW_ok e _ h h3 h4, hl]; rfl
theorem law1_ok {ds : List Int} (hd : Dr ds) {K : Int} (hK : 0 ≤ K ∧ K < 1000) {n m : Nat} {ws : List Int} (h : Ws ws) (hn : ws.length = n) (e : Bool) (h3 : 1 ≤ m) (h4 : m ≤ 8) {x : Int} (hx : 0 ≤ x ∧ x < n) : s_law_1 ds K ((n : Int), (m : Int)) ws (wd e) () x = .ok (.nx ()) := by
  obtain ⟨k, rfl⟩ : ∃ k : Nat, x = k := ⟨x.toNat, by omega⟩
  have hk : k < ws.length := by omega
  have hp : x_price ws m = .ok ((desc ws).getD m 0) := by unfold x_price; rw [if_pos ⟨h.2.1, by omega, by omega⟩]; simp
  have b1 := getD_bd h.2.2 m
  have c20 : 0 ≤ K + 20 + (k : Int) ∧ K + 20 + (k : Int) < 1000000 := by have := h.2.1; omega
  have c30 : 0 ≤ K + 30 + (k : Int) ∧ K + 30 + (k : Int) < 1000000 := by have := h.2.1; omega
  have m1 := mixB hd c20 (many := 1000001) (by decide)
  have m2 := mixB hd c30 (many := 4) (by decide)
  obtain ⟨y, hy, hym⟩ := atR_mem (xs := [0, 1000000, mixF ds (K + 20 + (k : Int)) 1000001, (desc ws).getD m 0]) m2.1 (by simpa using m2.2)
  have hyb : 0 ≤ y ∧ y ≤ 1000000 := by
    simp only [List.mem_cons, List.not_mem_nil, or_false] at hym
    omega
  have hset : ws.take k ++ [y] ++ ws.drop (k + 1) = ws.set k y := by rw [List.set_eq_take_append_cons_drop, if_pos hk]; simp
  have ht := set_Ws h (k := k) hyb
  have hk1 : cutL ws (some ((k : Int) + 1)) none = ws.drop (k + 1) := cutL_from ws (k + 1)
  have l1 : (ws.take k).length + [y].length ≤ 16777216 := by simp; have := h.2.1; omega
  have l2 : (ws.take k ++ [y]).length + (ws.drop (k + 1)).length ≤ 16777216 := by simp; have := h.2.1; omega
  have wk : ws.set k (ws.getD k 0) = ws := by
    have : ws.getD k 0 = ws[k] := by simp [List.getD_eq_getElem?_getD, hk]
    rw [this]; exact List.set_getElem_self ..
  have b2 : 0 ≤ ws.getD k 0 ∧ ws.getD k 0 ≤ 1000000 := by
    have : ws.getD k 0 = ws[k] := by simp [List.getD_eq_getElem?_getD, hk]
    rw [this]; exact h.2.2 _ (List.getElem_mem hk)
  have g1 := gain_at h h rfl e h3 h4 hk
  have g2 := gain_at h ht (by simp) e h3 h4 hk
  have g3 := gainw_ok h e h3 h4 hk hyb
  have g4 := gainw_ok h e h3 h4 hk b2
  rw [wk] at g4
  have G := good e h.1 h.2.1 h3 h4
  have gs := G.small
  have hle := GN_low h e h3 h4 hk hyb
  have hcmp := low_lt (n := GN ws ws m e k) (n' := GN ws (ws.set k y) m e k) G.pos G.pos
  have sm : ∀ told : List Int, Ws told → told.length = ws.length → (GN ws told m e k).natAbs < 2 ^ 100 := fun told q ql => by
    have s1 := NB_small q e h3 h4 k
    have s2 : (win told m k (ws.getD k 0)).natAbs < 2 ^ 30 := by
      unfold win
      have := getD_bd q.2.2 m
      split <;> omega
    unfold GN
    rw [ql]
    have s3 : (win told m k (ws.getD k 0) * LW ws.length m e).natAbs < 2 ^ 70 := by
      rw [Int.natAbs_mul]
      have := G.pos
      calc (win told m k (ws.getD k 0)).natAbs * (LW ws.length m e).natAbs < 2 ^ 30 * 2 ^ 40 := Nat.mul_lt_mul'' s2 (by omega)
        _ = 2 ^ 70 := by decide
    omega
  have sm1 := sm ws h rfl
  have sm2 := sm (ws.set k y) ht (by simp)
  have n1 := low_num (n := GN ws ws m e k) G.pos
  have n2 := low_num (n := GN ws (ws.set k y) m e k) G.pos
  obtain ⟨d1, d2⟩ := low_den (n := GN ws ws m e k) G.pos
  obtain ⟨d3, d4⟩ := low_den (n := GN ws (ws.set k y) m e k) G.pos
  have o1 : okMul (low (GN ws (ws.set k y) m e k) (LW ws.length m e)).1 (low (GN ws ws m e k) (LW ws.length m e)).2 = true := okMul_of (k := 100) (l := 40) (by omega) (by omega)
  have o2 : okMul (low (GN ws ws m e k) (LW ws.length m e)).1 (low (GN ws (ws.set k y) m e k) (LW ws.length m e)).2 = true := okMul_of (k := 100) (l := 40) (by omega) (by omega)
  have hno : ¬ ((low (GN ws ws m e k) (LW ws.length m e)).1 * (low (GN ws (ws.set k y) m e k) (LW ws.length m e)).2 < (low (GN ws (ws.set k y) m e k) (LW ws.length m e)).1 * (low (GN ws ws m e k) (LW ws.length m e)).2) := by
    rw [hcmp]
    have : GN ws (ws.set k y) m e k * LW ws.length m e ≤ GN ws ws m e k * LW ws.length m e := Int.mul_le_mul_of_nonneg_right hle (Int.le_of_lt G.pos)
    omega
  unfold s_law_1
  simp only [mixE hd c20 (show (0 : Int) < 1000001 by decide), mixE hd c30 (show (0 : Int) < 4 by decide), hp, Res.bind_ok, hy, cutL_to, hk1, catR_ok l1, catR_ok l2, hset, g1, g2, g3, g4, atR_D 0 hk, decide_true, Bool.not_true, Bool.false_eq_true, if_false, mulR_ok o1, mulR_ok o2, decide_eq_false hno]
/-- backs, told one by one -/
theorem backs_comp {n m : Nat} {ws : List Int} (h : Ws ws) (hn : ws.length = n) (e : Bool) (h3 : 1 ≤ m) (h4 : m ≤ 8) : compR (fun _ => Res.ok true) (fun t : Int => x_back ws m (wd e) t) ((List.range n).map fun i => ((i : Nat) : Int)) = .ok (bksT ws m e) := by
  rw [mapR_ok (g := fun t : Int => low (NB ws m e t.toNat) (LW ws.length m e))]
  · unfold bksT NBs
    rw [List.map_map, List.map_map, hn]
    rfl
  · intro t ht
    obtain ⟨i, hi, rfl⟩ := List.mem_map.mp ht
    exact back_at h e h3 h4 (by have := List.mem_range.mp hi; omega)
theorem minL_nonneg {xs : List Int} (h : ∀ x ∈ xs, 0 ≤ x) (hl : xs ≠ []) : ∃ y, minL xs = some y ∧ 0 ≤ y := by
  cases xs with
  | nil => exact absurd rfl hl
  | cons x xs =>
    refine ⟨_, rfl, ?_⟩
    have key : ∀ (xs : List Int) (x : Int), 0 ≤ x → (∀ y ∈ xs, 0 ≤ y) → 0 ≤ xs.foldl min x := by
      intro xs
      induction xs with
      | nil => intro x h _; exact h
      | cons y xs ih => intro x h1 h2; exact ih _ (by have := h2 y (List.mem_cons_self ..); omega) fun z hz => h2 z (List.mem_cons_of_mem _ hz)
    exact key xs x (h x (List.mem_cons_self ..)) fun y hy => h y (List.mem_cons_of_mem _ hy)
theorem low_nonneg {n d : Int} (h : 0 < d) : 0 ≤ (low n d).1 ↔ 0 ≤ n := by
  have v := low_val (n := n) h
  have p := (low_den (n := n) h).1
  generalize (low n d).1 = a at *
  generalize (low n d).2 = b at *
  constructor
  · intro ha
    have : 0 ≤ a * d := Int.mul_nonneg ha (by omega)
    rw [v] at this
    by_cases z : 0 ≤ n
    · exact z
    · have : n * b < 0 := Int.mul_neg_of_neg_of_pos (by omega) p
      omega
  · intro hn
    have : 0 ≤ n * b := Int.mul_nonneg hn (by omega)
    rw [← v] at this
    by_cases z : 0 ≤ a
    · exact z
    · have : a * d < 0 := Int.mul_neg_of_neg_of_pos (by omega) h
      omega
theorem tl_eq (n i : Nat) (h : i ≤ n) : ((rngI (i : Int) (n - i)).map fun j => ((bin (n - 1) j.toNat : Nat) : Int)).sum = tl n i := by
  unfold tl rngI
  rw [List.map_map]
  congr 1
theorem tl_small : ∀ n, n < 11 → ∀ m, m < 9 → 0 ≤ tl n m ∧ tl n m < 2 ^ 20 ∧ bin (n - 1) m < 2 ^ 20 := by decide +kernel
theorem law2_ok {ds : List Int} (hd : Dr ds) {K : Int} (hK : 0 ≤ K ∧ K < 1000) {n m : Nat} {ws : List Int} (h : Ws ws) (hn : ws.length = n) (e : Bool) (h3 : 1 ≤ m) (h4 : m ≤ 8) : s_law_2 ds K ((n : Int), (m : Int)) ws ((desc ws).getD m 0 * min (n : Int) m) () (wd e) = .ok (.nx ()) := by
  subst hn
  have n1 := h.1
  have n2 := h.2.1
  have G := good e n1 n2 h3 h4
  have gs := G.small
  have gp := G.pos
  have hw : x_weights_of (ws.length : Int) m (wd e) = .ok (W ws.length m e) := onNM_ok e W n1 n2 h3 h4
  have hrg : rngR (ws.length : Int) = .ok ((List.range ws.length).map fun i => ((i : Nat) : Int)) := rngR_nat (by omega)
  have hb := backs_comp h rfl e h3 h4
  have hs : s__law_sum (bksT ws m e) = .ok (low (NBs ws m e).sum (LW ws.length m e)) := s_sum_ok gp gs _ (fun N hN => by
    obtain ⟨k, _, rfl⟩ := List.mem_map.mp hN
    exact Nat.lt_trans (NB_small h e h3 h4 k) (by decide)) (by simp [NBs]; omega)
  have hgb : x_given_back ws m (wd e) = .ok (bksT ws m e) := onW_ok e _ h h3 h4
  have hlo : x_left_over ws m (wd e) = .ok (low (RN ws m e) (LW ws.length m e)) := onW_ok e _ h h3 h4
  have b := getD_bd h.2.2 m
  have hIb : 0 ≤ (desc ws).getD m 0 * min (ws.length : Int) m ∧ (desc ws).getD m 0 * min (ws.length : Int) m < 2 ^ 30 := by
    refine ⟨Int.mul_nonneg b.1 (by omega), ?_⟩
    have : (desc ws).getD m 0 * min (ws.length : Int) m ≤ 1000000 * 10 := Int.mul_le_mul b.2 (by omega) (by omega) (by omega)
    omega
  have hRN : RN ws m e = (desc ws).getD m 0 * min (ws.length : Int) m * LW ws.length m e - (NBs ws m e).sum := by
    unfold RN; rw [Int.min_comm (m : Int)]
  have hmr := fun hn => most_rest h h3 h4 hn
  have hsumS : (NBs ws m e).sum.natAbs < 2 ^ 105 := by
    have key : ∀ l : List Int, (∀ N ∈ l, N.natAbs < 2 ^ 100) → l.sum.natAbs ≤ l.length * 2 ^ 100 := by
      intro l
      induction l with
      | nil => intro _; simp
      | cons a l ih =>
        intro hl
        have h1 := hl a (List.mem_cons_self ..)
        have h2 := ih fun N hN => hl N (List.mem_cons_of_mem _ hN)
        rw [List.sum_cons, List.length_cons]
        omega
    have := key (NBs ws m e) fun N hN => by
      obtain ⟨k, _, rfl⟩ := List.mem_map.mp hN
      exact Nat.lt_trans (NB_small h e h3 h4 k) (by decide)
    have hl : (NBs ws m e).length = ws.length := by simp [NBs]
    rw [hl] at this
    omega
  have hRp := RN_nonneg h e h3 h4
  have hev := fun hn => even_rest h h3 h4 hn
  have hBn : ∀ p ∈ bksT ws m e, 0 ≤ p.1 := fun p hp => by
    obtain ⟨N, hN, rfl⟩ := List.mem_map.mp hp
    obtain ⟨k, _, rfl⟩ := List.mem_map.mp hN
    exact (low_nonneg gp).mpr (NB_nonneg h e h3 h4 k)
  have hBl : (bksT ws m e).map (fun p => p.1) ≠ [] := by
    have : (bksT ws m e).length = ws.length := by simp [bksT, NBs]
    intro z
    have q := congrArg List.length z
    rw [List.length_map, this, List.length_nil] at q; omega
  have hz : ws.length < m + 2 → W ws.length m e = [] ∧ (NBs ws m e).sum = 0 := fun hlt => by
    refine ⟨by unfold W; rw [if_pos hlt], ?_⟩
    unfold NBs
    rw [show (List.range ws.length).map (NB ws m e) = (List.range ws.length).map fun _ => 0 from List.map_congr_left fun k _ => NBs_zero e (by omega) k]
    exact sum_zero _
  generalize hI : (desc ws).getD m 0 * min (ws.length : Int) m = I at *
  -- the rest
  have hadd : TyC.s__law_add (I, 1) (-(low (NBs ws m e).sum (LW ws.length m e)).1, (low (NBs ws m e).sum (LW ws.length m e)).2) = .ok (low (RN ws m e) (LW ws.length m e)) := by
    obtain ⟨d1, d2⟩ := low_den (n := (NBs ws m e).sum) gp
    have nn := low_num (n := (NBs ws m e).sum) gp
    have hv := low_val (n := (NBs ws m e).sum) gp
    unfold TyC.s__law_add
    have k3 : (2 : Int) ^ 40 < 2 ^ 200 := by decide
    rw [if_pos ⟨okMul_of (k := 30) (l := 40) (by simp only; omega) (by simp only; omega), okMul_of (k := 105) (l := 1) (by simp only; omega) (show (1 : Int).natAbs < 2 ^ 1 by decide), okMul_of (k := 1) (l := 40) (show (1 : Int).natAbs < 2 ^ 1 by decide) (by simp only; omega), by simp only; omega, by simp only; omega⟩]
    congr 1
    refine low_eq (by simp only; omega) gp ?_
    simp only
    rw [hRN]
    generalize (low (NBs ws m e).sum (LW ws.length m e)).1 = s at hv ⊢
    generalize (low (NBs ws m e).sum (LW ws.length m e)).2 = r at hv ⊢
    grind
  obtain ⟨mn, hmn, hmn0⟩ := minL_nonneg (xs := (bksT ws m e).map fun p => p.1) (fun x hx => by
    obtain ⟨p, hp, rfl⟩ := List.mem_map.mp hx
    exact hBn p hp) hBl
  have hr0 : ¬ (low (RN ws m e) (LW ws.length m e)).1 < 0 := by
    have := (low_nonneg gp).mpr hRp
    omega
  -- sets
  have hset1 : x_sets ((ws.length : Int) - 1) m = .ok (bin (ws.length - 1) m) := by
    unfold x_sets
    rw [if_pos (by omega)]
    rw [show ((ws.length : Int) - 1).toNat = ws.length - 1 by omega, Int.toNat_natCast]
  have hset2 : ((rng2R (m : Int) ws.length).bind fun t => compR (fun _ => Res.ok true) (fun j : Int => x_sets ((ws.length : Int) - 1) j) t) = .ok ((rngI (m : Int) (ws.length - m)).map fun j => ((bin (ws.length - 1) j.toNat : Nat) : Int)) := by
    rw [rng2R_ok (by omega) (by omega) (by omega) (by omega) (by omega), Res.bind_ok, show ((ws.length : Int) - m).toNat = ws.length - m by omega]
    refine mapR_ok fun j hj => ?_
    have := mem_rngI.mp hj
    unfold x_sets
    rw [if_pos (by omega), show ((ws.length : Int) - 1).toNat = ws.length - 1 by omega]
  have hsum2 : ((rngI (m : Int) (ws.length - m)).map fun j => ((bin (ws.length - 1) j.toNat : Nat) : Int)).sum = tl ws.length m := by
    by_cases q : m ≤ ws.length
    · exact tl_eq ws.length m q
    · rw [show ws.length - m = 0 by omega]
      unfold tl rngI
      rw [show ws.length - m = 0 by omega]; rfl
  have ts := tl_small ws.length (by omega) m (by omega)
  have kk : (2 : Int) ^ 20 < 2 ^ 200 := by decide
  have hpart : TyC.s__law_low (bin (ws.length - 1) m) (max 1 (tl ws.length m)) = .ok (low (bin (ws.length - 1) m) (max 1 (tl ws.length m))) := lowR_ok (by omega) (by omega)
  have hlast : forR (s_law_1 ds K ((ws.length : Int), (m : Int)) ws (wd e)) () ((List.range ws.length).map fun i => ((i : Nat) : Int)) = .ok (.nx ()) := forR_all fun x hx => by
    obtain ⟨i, hi, rfl⟩ := List.mem_map.mp hx
    have := List.mem_range.mp hi
    exact law1_ok hd hK h rfl e h3 h4 ⟨by omega, by omega⟩
  have hnone : (decide ((ws.length : Int) < (m : Int) + 2) && ((!decide (W ws.length m e = [])) || (!decide (low (NBs ws m e).sum (LW ws.length m e) = (0, 1))))) = false := by
    by_cases q : ws.length < m + 2
    · obtain ⟨z1, z2⟩ := hz q
      rw [z1, z2, low_0 gp]; simp
    · have : ¬ (ws.length : Int) < (m : Int) + 2 := by omega
      simp [this]
  have heq : ∀ e : Bool, eqR (eS (wd e)) (eS ("even" : Str)) = .ok e := fun e => by
    have key : ∀ (r : Res Bool) (b : Bool), (match r with | .ok c => c == b | _ => false) = true → r = .ok b := fun r b h => by
      split at h
      · rw [beq_iff_eq.mp h]
      · cases h
    cases e
    · exact key _ _ (by decide +kernel)
    · exact key _ _ (by decide +kernel)
  have hmq : ∀ e : Bool, eqR (eS (wd e)) (eS ("most" : Str)) = .ok (!e) := fun e => by
    have key : ∀ (r : Res Bool) (b : Bool), (match r with | .ok c => c == b | _ => false) = true → r = .ok b := fun r b h => by
      split at h
      · rw [beq_iff_eq.mp h]
      · cases h
    cases e
    · exact key _ _ (by decide +kernel)
    · exact key _ _ (by decide +kernel)
  have hord : (sortI ws).reverse = desc ws := rfl
  -- all together
  unfold s_law_2
  simp only [hw, hrg, hb, Res.bind_ok, hs, hadd, hgb, hlo, decide_true, Bool.not_true, Bool.false_eq_true, if_false, decide_eq_false hr0, hmn, ofO_some, decide_eq_false (show ¬ mn < 0 by omega), heq, hset1, hset2, hsum2, hpart, hmq, hnone, hlast, seqF_nx, hord]
  cases e with
  | true =>
    simp only [if_true, Bool.not_true, Bool.false_eq_true, if_false, Res.bind_ok]
    by_cases q : m + 2 ≤ ws.length
    · have hv : m < (desc ws).length := by rw [desc_len]; omega
      have hv2 : m + 1 < (desc ws).length := by rw [desc_len]; omega
      have hv2' : atR (desc ws) ((m : Int) + 1) = .ok ((desc ws).getD (m + 1) 0) := atR_D 0 hv2
      have b2 := getD_bd h.2.2 (m + 1)
      have bm : 0 ≤ (m : Int) * ((m : Int) + 1) ∧ (m : Int) * ((m : Int) + 1) ≤ 8 * 9 := ⟨Int.mul_nonneg (by omega) (by omega), Int.mul_le_mul (by omega) (by omega) (by omega) (by omega)⟩
      have e1 := hev q
      have kk : (16777216 : Int) < 2 ^ 200 := by decide
      simp only [decide_eq_true (show (m : Int) + 2 ≤ (ws.length : Int) by omega), if_true, mulR_60 (a := (m : Int)) (b := (m : Int) + 1) (by omega) (by omega), atR_D 0 hv, hv2', Res.bind_ok, mulR_60 (a := (m : Int) * ((m : Int) + 1)) (b := (desc ws).getD m 0 - (desc ws).getD (m + 1) 0) (by omega) (by omega), lowR_ok (d := (ws.length : Int)) (by omega) (by omega), e1, decide_true, Bool.not_true, Bool.false_eq_true, if_false, seqF_nx]
    · simp only [decide_eq_false (show ¬ (m : Int) + 2 ≤ (ws.length : Int) by omega), Bool.false_eq_true, if_false, seqF_nx]
  | false =>
    simp only [Bool.not_false, if_true, Bool.false_eq_true, if_false, Res.bind_ok, seqF_nx]
    by_cases q : m + 2 ≤ ws.length
    · have e1 := hmr q
      rw [Int.min_comm (m : Int), hI] at e1
      obtain ⟨d1, d2⟩ := low_den (n := RN ws m false) gp
      obtain ⟨d3, d4⟩ := low_den (n := (bin (ws.length - 1) m : Int)) (d := max 1 (tl ws.length m)) (by omega)
      have n3 := low_num (n := (bin (ws.length - 1) m : Int)) (d := max 1 (tl ws.length m)) (by omega)
      have n4 := low_num (n := RN ws m false) gp
      have hv := low_val (n := RN ws m false) gp
      have rs : (RN ws m false).natAbs < 2 ^ 106 := by
        rw [hRN]
        have : (I * LW ws.length m false).natAbs < 2 ^ 70 := by
          rw [Int.natAbs_mul]
          calc I.natAbs * (LW ws.length m false).natAbs < 2 ^ 30 * 2 ^ 40 := Nat.mul_lt_mul'' (by omega) (by omega)
            _ = 2 ^ 70 := by decide
        omega
      have hno : ¬ (low (bin (ws.length - 1) m) (max 1 (tl ws.length m))).1 * I * (low (RN ws m false) (LW ws.length m false)).2 < (low (RN ws m false) (LW ws.length m false)).1 * (low (bin (ws.length - 1) m) (max 1 (tl ws.length m))).2 := by
        intro hlt
        generalize (low (bin (ws.length - 1) m) (max 1 (tl ws.length m))).1 = p1 at *
        generalize (low (bin (ws.length - 1) m) (max 1 (tl ws.length m))).2 = p2 at *
        generalize (low (RN ws m false) (LW ws.length m false)).1 = r1 at *
        generalize (low (RN ws m false) (LW ws.length m false)).2 = r2 at *
        generalize LW ws.length m false = L at *
        generalize RN ws m false = R at *
        have a1 : p1 * I * r2 * L < r1 * p2 * L := Int.mul_lt_mul_of_pos_right hlt gp
        have a2 : R * p2 * r2 ≤ p1 * I * L * r2 := Int.mul_le_mul_of_nonneg_right e1 (by omega)
        have a3 : r1 * p2 * L = R * p2 * r2 := by grind
        have a4 : p1 * I * r2 * L = p1 * I * L * r2 := by grind
        omega
      have p1s : ((low (bin (ws.length - 1) m) (max 1 (tl ws.length m))).1 * I).natAbs < 2 ^ 50 := by
        rw [Int.natAbs_mul]
        calc _ < 2 ^ 20 * 2 ^ 30 := Nat.mul_lt_mul'' (by omega) (by omega)
          _ = 2 ^ 50 := by decide
      have o1 : okMul (low (RN ws m false) (LW ws.length m false)).1 (low (bin (ws.length - 1) m) (max 1 (tl ws.length m))).2 = true := okMul_of (k := 106) (l := 40) (by omega) (by omega)
      have o2 : okMul (low (bin (ws.length - 1) m) (max 1 (tl ws.length m))).1 I = true := okMul_of (k := 40) (l := 40) (by omega) (by omega)
      have o3 : okMul ((low (bin (ws.length - 1) m) (max 1 (tl ws.length m))).1 * I) (low (RN ws m false) (LW ws.length m false)).2 = true := okMul_of (k := 50) (l := 40) p1s (by omega)
      simp only [decide_eq_true (show (m : Int) + 2 ≤ (ws.length : Int) by omega), if_true, mulR_ok o1, mulR_ok o2, mulR_ok o3, Res.bind_ok, decide_eq_false hno, Bool.false_eq_true, if_false]
    · simp only [decide_eq_false (show ¬ (m : Int) + 2 ≤ (ws.length : Int) by omega), Bool.false_eq_true, if_false, Res.bind_ok]
theorem worth_ok {ds : List Int} (hd : Dr ds) {K : Int} (hK : 0 ≤ K ∧ K < 1000) {n : Nat} (h1 : 1 ≤ n) (h2 : n ≤ 10) {st ba kd : Int} (hs : 0 ≤ st ∧ st < 1000) (hb : 0 ≤ ba ∧ ba < 100000) (hk : 0 ≤ kd ∧ kd < 4) (g : Int → Res Int) (hg : ∀ t : Int, 0 ≤ t → t < n → g t = atR [mixF ds (K + 6 + t) 1000001, ba, ba + st * (n - t), mixF ds (K + 6 + t) 5] kd) :
    ∃ ws : List Int, compR (fun _ => Res.ok true) g ((List.range n).map fun i => ((i : Nat) : Int)) = .ok ws ∧ Ws ws ∧ ws.length = n := by
  have key : ∀ t : Int, 0 ≤ t → t < n → ∃ y, g t = .ok y ∧ 0 ≤ y ∧ y ≤ 1000000 := fun t t0 t1 => by
    have m1 := mixB hd (k := K + 6 + t) (by omega) (many := 1000001) (by decide)
    have m2 := mixB hd (k := K + 6 + t) (by omega) (many := 5) (by decide)
    obtain ⟨y, hy, hm⟩ := atR_mem (xs := [mixF ds (K + 6 + t) 1000001, ba, ba + st * ((n : Int) - t), mixF ds (K + 6 + t) 5]) (i := kd) hk.1 (by simpa using hk.2)
    refine ⟨y, by rw [hg t t0 t1, hy], ?_⟩
    have h3 : 0 ≤ st * ((n : Int) - t) := Int.mul_nonneg hs.1 (by omega)
    have h4 : st * ((n : Int) - t) ≤ 1000 * 10 := Int.mul_le_mul (by omega) (by omega) (by omega) (by omega)
    simp only [List.mem_cons, List.not_mem_nil, or_false] at hm
    omega
  let gv : Int → Int := fun t => match g t with | .ok y => y | _ => 0
  have hgv : ∀ t : Int, 0 ≤ t → t < n → g t = .ok (gv t) ∧ 0 ≤ gv t ∧ gv t ≤ 1000000 := fun t t0 t1 => by
    obtain ⟨y, hy, b⟩ := key t t0 t1
    have : gv t = y := by simp only [gv, hy]
    rw [this]; exact ⟨hy, b⟩
  refine ⟨_, mapR_ok (g := gv) fun t ht => ?_, ⟨by simp; omega, by simp; omega, fun y hy => ?_⟩, by simp⟩
  · obtain ⟨i, hi, rfl⟩ := List.mem_map.mp ht
    have := List.mem_range.mp hi
    exact (hgv _ (by omega) (by omega)).1
  · obtain ⟨t, ht, rfl⟩ := List.mem_map.mp hy
    obtain ⟨i, hi, rfl⟩ := List.mem_map.mp ht
    have := List.mem_range.mp hi
    exact (hgv _ (by omega) (by omega)).2
theorem law3_ok {ds : List Int} (hd : Dr ds) {x : Int} (hx : 0 ≤ x ∧ x < 3) : s_law_3 ds () x = .ok (.nx ()) := by
  have e1 : mulR 40 x = .ok (40 * x) := mulR_60 (by decide) (by omega)
  obtain ⟨K, hKe⟩ : ∃ K, K = 10 + 40 * x := ⟨_, rfl⟩
  have hK : 0 ≤ K ∧ K < 1000 := by omega
  have b1 := mixB hd (k := K) (by omega) (many := 10) (by decide)
  have b2 := mixB hd (k := K + 2) (by omega) (many := 2) (by decide)
  obtain ⟨q, hq, hqm⟩ := atR_mem (xs := [(8 : Int), 3]) b2.1 (by simpa using b2.2)
  have hqb : 0 < q ∧ q ≤ 8 := by
    simp only [List.mem_cons, List.not_mem_nil, or_false] at hqm
    omega
  have b3 := mixB hd (k := K + 1) (by omega) (many := q) hqb.1
  have b4 := mixB hd (k := K + 3) (by omega) (many := 1000) (by decide)
  have b5 := mixB hd (k := K + 4) (by omega) (many := 100000) (by decide)
  have b6 := mixB hd (k := K + 5) (by omega) (many := 4) (by decide)
  obtain ⟨n, hn⟩ : ∃ n : Nat, 1 + mixF ds K 10 = n := ⟨(1 + mixF ds K 10).toNat, by omega⟩
  obtain ⟨m, hm⟩ : ∃ m : Nat, 1 + mixF ds (K + 1) q = m := ⟨(1 + mixF ds (K + 1) q).toNat, by omega⟩
  have hrg : rngR (n : Int) = .ok ((List.range n).map fun i => ((i : Nat) : Int)) := rngR_nat (by omega)
  unfold s_law_3
  simp only [e1, Res.bind_ok, ← hKe, mixE hd (k := K) (by omega) (show (0 : Int) < 10 by decide), mixE hd (k := K + 2) (by omega) (show (0 : Int) < 2 by decide), hq, mixE hd (k := K + 1) (by omega) hqb.1, mixE hd (k := K + 3) (by omega) (show (0 : Int) < 1000 by decide), mixE hd (k := K + 4) (by omega) (show (0 : Int) < 100000 by decide), mixE hd (k := K + 5) (by omega) (show (0 : Int) < 4 by decide), hn, hm, hrg]
  generalize hst : mixF ds (K + 3) 1000 = st at *
  generalize hba : mixF ds (K + 4) 100000 = ba at *
  generalize hkd : mixF ds (K + 5) 4 = kd at *
  have hc1 : ∀ t : Int, 0 ≤ t → t < n → 0 ≤ K + 6 + t ∧ K + 6 + t < 1000000 := fun t t0 t1 => by omega
  obtain ⟨ws, hws, hW, hl⟩ := worth_ok hd hK (n := n) (by omega) (by omega) b4 b5 b6 (fun (t_63 : Int) => ((((TyC.s__law_mix ds ((K + (6 : Int)) + t_63) (1000001 : Int)).bind fun t_69 => (((((((mulR st ((n : Int) - t_63)).bind fun t_65 => Res.ok ((ba + t_65)))).bind fun t_66 => (((TyC.s__law_mix ds ((K + (6 : Int)) + t_63) (5 : Int)).bind fun t_64 => Res.ok ((t_64 :: ([] : List Int))))).bind fun t_67 => Res.ok ((t_66 :: t_67)))).bind fun t_68 => Res.ok ((ba :: t_68)))).bind fun t_70 => Res.ok ((t_69 :: t_70)))).bind fun t_71 => atR t_71 kd)) (fun t t0 t1 => by
    have h3 : mulR st ((n : Int) - t) = .ok (st * ((n : Int) - t)) := mulR_60 (by omega) (by omega)
    simp only [mixE hd (hc1 t t0 t1) (show (0 : Int) < 1000001 by decide), mixE hd (hc1 t t0 t1) (show (0 : Int) < 5 by decide), h3, Res.bind_ok])
  have hp : x_price ws m = .ok ((desc ws).getD m 0) := by unfold x_price; rw [if_pos ⟨hW.2.1, by omega, by omega⟩]; simp
  have b7 := getD_bd hW.2.2 m
  have hi : x_income ws m = .ok ((desc ws).getD m 0 * min (n : Int) m) := by
    unfold x_income; rw [if_pos ⟨hW, by omega, by omega⟩, hl, Int.min_comm]; simp
  have h5 : mulR ((desc ws).getD m 0) (min (n : Int) m) = .ok ((desc ws).getD m 0 * min (n : Int) m) := mulR_60 (by omega) (by omega)
  rw [hws]
  simp only [Res.bind_ok, hp, hi, h5, decide_true, Bool.not_true, Bool.false_eq_true, if_false]
  rw [forR_all]
  · rfl
  · intro w hw
    have : ∃ e : Bool, w = wd e := by
      simp only [List.mem_cons, List.not_mem_nil, or_false] at hw
      rcases hw with rfl | rfl
      · exact ⟨true, rfl⟩
      · exact ⟨false, rfl⟩
    obtain ⟨e, rfl⟩ := this
    exact law2_ok hd hK hW hl e (by omega) (by omega)
def isT : Res Bool → Bool
  | .ok b => b
  | _ => false
theorem isT_ok {r : Res Bool} (h : isT r = true) : r = .ok true := by
  unfold isT at h
  split at h
  · rw [h]
  · cases h
theorem s_law_ok (ns : List Int) (h : ns.length ≤ 63) : s_law ns = .ok true := by
  obtain ⟨h1, hd⟩ := drawsR_ok h
  have hrg : rngR (3 : Int) = .ok (rngI 0 3) := rfl
  unfold s_law
  rw [h1, Res.bind_ok, hrg, Res.bind_ok, forR_all (fun x hx => by
    have := mem_rngI.mp hx
    exact law3_ok hd ⟨by omega, by omega⟩), seqF_nx]
  exact isT_ok (by decide +kernel)
theorem plain (ns : List Int) (h : ns.length ≤ 63) : m_law [scr ns] = .ok (.bool true) := RR.out (t_law ns) (s_law_ok ns h)
end K03
namespace K03
open PySem PySem.Spec PyProof.Rows L2 Pf

abbrev R : PySem.W.OpenRow := PySem.W.OpenLaw.row PySem.Challenge.rw_truebidsbest_k03_main_money_given_back_b
abbrev hk : PySem.W.Hook := hookT 4 wt
def ob (s : PySem.W.SharedT) : AlT := obsTG 4 wt (HandSHeadRun.getT s)
theorem ob_eq (s : PySem.W.SharedT) : ob s = hk.obs s.abs := obsTG_eq (HandSHeadRun.getT_eq s)
theorem run (w : World) : HandSHeadRun.RunEq R (PySem.W.view R.prog [44]) hk ob 100000 names w := by
  intro os
  kernel_rfl
theorem facts {w : World} {K : PySem.W.Frag} {h : Heap} {mg : Str → Option Value} {f : Addr} (X : K.In h) (G : h.Ns mainGlobals mg) (hfa : mg ("law" : Str) = some (.ref f)) (c : SaysT wt K) :
    ∃ fd : FuncData, (∀ (s : Shared) (v : Value), BindsTo s fd ⟨[v], []⟩ [("script", v)]) ∧ ∀ base : Heap, FnOk PP w K mg base CX0 8 f fd ["script"] (fun vs H Q _ => spOf K mg 1 m_law vs H Q (fun _ _ _ => False)) := by
  have m : M K mg := ⟨⟨h, X, G⟩, c⟩
  obtain ⟨fd, F⟩ := m.fn_law
  have e := hfa.symm.trans m.gl_law
  cases e
  have b := FunD.bindsA (ps := ["script"]) F fun _ _ _ _ _ _ us hl => match us, hl with | [_], _ => rfl
  exact ⟨fd, fun s v => b s [v] rfl, fun base => fn_close (ok_law m F)⟩
end K03
open PySem PySem.W PySem.Calls PyProof.Rows
theorem PySem.Challenge.cw_truebidsbest_k03_main_money_given_back_b_holds : PySem.Challenge.rw_truebidsbest_k03_main_money_given_back_b.Holds := by
  w_on; o_law
  refine HandSHeadRun.head_any (r := OpenLaw.row PySem.Challenge.rw_truebidsbest_k03_main_money_given_back_b) (q := view (OpenLaw.row PySem.Challenge.rw_truebidsbest_k03_main_money_given_back_b).prog [44]) (H := K03.hk) (ob := K03.ob) (M := 100000) (loose := K03.names) (d := HandSHeadRun.topDef (OpenLaw.row PySem.Challenge.rw_truebidsbest_k03_main_money_given_back_b).prog 44) (kwd := []) K03.ob_eq
    (by kernel_rfl) (fun s => by kernel_rfl) K03.run (by kernel_rfl) (by kernel_rfl) (by kernel_rfl) (by rfl) (by first | assumption | decide +kernel) (by decide +kernel) ⟨rfl, rfl, rfl, rfl, rfl, by decide +kernel⟩ ?hw ?hc
  case hw => w_witness2
  case hc =>
    refine L2.walk_ofE (l := PySem.Challenge.rw_truebidsbest_k03_main_money_given_back_b) (n := 63) (k := 8) (x := "script") (CX := L2.CX0) rfl (by decide) (by kernel_rfl) ⟨rfl, by decide, by decide⟩ ?F (fun _ _ _ _ z => z)
    intro w mg fa h Y G hmg0
    obtain ⟨K, KX, c⟩ := Y
    have hmg : mg ("law" : PySem.Str) = some (.ref fa) := by
      have e : (HandSHeadRun.topDef (OpenLaw.row PySem.Challenge.rw_truebidsbest_k03_main_money_given_back_b).prog 44).name = ("law" : PySem.Str) := by kernel_rfl
      rw [← e]
      exact hmg0
    obtain ⟨fd, hb, hF⟩ := K03.facts (w := w) KX G hmg c
    exact ⟨K, fd, (fun vs H Q _ => Pf.spOf K mg 1 K03.m_law vs H Q (fun _ _ _ => False)), KX, hb, fun H a ns hl hO hS => Pf.sp_law K03.plain H a ns hl hO hS, fun base _ _ => hF base⟩
