import PyProof.Rows.All
import Wide.All
import OpenK.AllK
import Wide.FinOn
import HandS.ForMost
import HandS.Wide
import HandS.Deep
import HandS.IsInst
import HandS.NoneIn
import HandS.Style
import HandS.Words
import HandS.WordsList
import HandS.TupAny
import HandS.Dict
import HandS.More
import HandS.SetFor
import HandS.ExcValue
import KE.SortData
import KE.DataFind
import HandS.ExcInit
import HandS.Nested
import KE.KExcSuper
import HandS.WordsExc
import HandS.ExcField
import KE.KExcIs
import HandS.ExcIs
import PySem.Challenge.RW_cornersexact_k01_wide_curves_and_where_t
set_option Elab.async false
set_option linter.all false
set_option maxRecDepth 100000
namespace Pl
open PySem PySem.Spec PyProof.Rows L2

/-! ### plain meanings: what is wanted of an answer -/
abbrev D := PyData
abbrev M (α : Type) := (α → Prop) → Prop
def ret {α : Type} (a : α) : M α := fun Q => Q a
def bnd {α β : Type} (m : M α) (f : α → M β) : M β := fun Q => m fun a => f a Q
def nope {α : Type} : M α := fun _ => False

/-- a slot: nothing, a value, a list of one's own that may still grow -/
inductive Sl where
  | no | va (d : D) | ow (ds : List D)
abbrev En := List Sl

/-! ### the heap -/
/-- all that is tracked stands, but the dict at aw may turn -/
def Fx (aw : Option Addr) (a : Addr) (o : HO) : Prop := some a = aw → ∀ kvs, o ≠ .dK kvs
theorem fx_ne {aw : Option Addr} {a : Addr} {o : HO} (n : some a ≠ aw) : Fx aw a o := fun z => (n z).elim
theorem fx_lst {aw : Option Addr} {a : Addr} {xs : List V} : Fx aw a (.lst xs) := fun _ _ z => nomatch z
theorem fx_tup {aw : Option Addr} {a : Addr} {xs : List V} : Fx aw a (.tup xs) := fun _ _ z => nomatch z
theorem fx_frz {aw : Option Addr} {a : Addr} {o : Obj} {u : HO} : Fx aw a (.frz o u) := fun _ _ z => nomatch z
structure Ext (aw : Option Addr) (H H' : Hp) : Prop where
  ap : ∀ a o, Fx aw a o → H a = some o → H' a = some o
  dk : ∀ x, aw = some x → ∀ kvs, H x = some (.dK kvs) → ∃ kvs', H' x = some (.dK kvs')
theorem Ext.refl (aw : Option Addr) (H : Hp) : Ext aw H H := ⟨fun _ _ _ h => h, fun _ _ kvs h => ⟨kvs, h⟩⟩
theorem Ext.trans {aw : Option Addr} {H H1 H2 : Hp} (x : Ext aw H H1) (y : Ext aw H1 H2) : Ext aw H H2 := ⟨fun a o n h => y.ap a o n (x.ap a o n h), fun z ez kvs h => let ⟨_, h1⟩ := x.dk z ez kvs h; y.dk z ez _ h1⟩
theorem Ext.new {aw : Option Addr} {H : Hp} {p : Addr} {o : HO} (h : H p = none) : Ext aw H (upd H p o) := ⟨fun a u _ e => by
  rw [upd_ne (ne_of_none e h)]; exact e, fun _ _ kvs e => ⟨kvs, by rw [upd_ne (ne_of_none e h)]; exact e⟩⟩
/-- an object that H does not know may change -/
theorem Ext.mut {aw : Option Addr} {H H' : Hp} {p : Addr} {o : HO} (e : Ext aw H H') (h : H p = none) : Ext aw H (upd H' p o) := ⟨fun a u n ha => by
  rw [upd_ne (ne_of_none ha h)]; exact e.ap a u n ha, fun z ez kvs ha => let ⟨k', h'⟩ := e.dk z ez kvs ha; ⟨k', by rw [upd_ne (ne_of_none ha h)]; exact h'⟩⟩
/-- what is seen without the own lists -/
def cut (H : Hp) (B : List Addr) : Hp := fun a => if a ∈ B then none else H a
theorem cut_nil (H : Hp) : cut H [] = H := by funext a; unfold cut; simp
theorem cut_some {H : Hp} {B : List Addr} {a : Addr} {o : HO} (h : cut H B a = some o) : H a = some o ∧ a ∉ B := by
  unfold cut at h
  by_cases e : a ∈ B
  · rw [if_pos e] at h; cases h
  · rw [if_neg e] at h; exact ⟨h, e⟩
theorem cut_of {H : Hp} {B : List Addr} {a : Addr} {o : HO} (h : H a = some o) (n : a ∉ B) : cut H B a = some o := by
  unfold cut; rw [if_neg n]; exact h
theorem cut_ext {aw : Option Addr} {H H' : Hp} {B : List Addr} (e : Ext aw H H') : Ext aw (cut H B) (cut H' B) := ⟨fun a o n h => by
  obtain ⟨h1, h2⟩ := cut_some h
  exact cut_of (e.ap a o n h1) h2, fun z ez kvs h => by
  obtain ⟨h1, h2⟩ := cut_some h
  obtain ⟨k', h'⟩ := e.dk z ez kvs h1
  exact ⟨k', cut_of h' h2⟩⟩
theorem cut_less {aw : Option Addr} {H : Hp} {B B' : List Addr} (s : ∀ a ∈ B', a ∈ B) : Ext aw (cut H B) (cut H B') := ⟨fun a o _ h => by
  obtain ⟨h1, h2⟩ := cut_some h
  exact cut_of h1 fun z => h2 (s a z), fun _ _ kvs h => by
  obtain ⟨h1, h2⟩ := cut_some h
  exact ⟨kvs, cut_of h1 fun z => h2 (s _ z)⟩⟩
theorem cut_upd {H : Hp} {B : List Addr} {p : Addr} {o : HO} (h : p ∈ B) : cut (upd H p o) B = cut H B := by
  funext a
  unfold cut
  by_cases e : a ∈ B
  · rw [if_pos e, if_pos e]
  · rw [if_neg e, if_neg e, upd_ne fun z => e (by rw [z]; exact h)]

/-- the world: the dict w with the draws and the place -/
def WorldW (a : Addr) (H : Hp) : Prop := ∃ (ld : Addr) (n : Int) (ns : List Int), H a = some (.dK [(.inr "draws", .ref ld), (.inr "at", .int n)]) ∧ H ld = some (.lst (ns.map V.int)) ∧ 0 ≤ n ∧ ns.length ≤ 100000
def World (aw : Option Addr) (H : Hp) : Prop := ∀ a, aw = some a → WorldW a H
def NT (H : Hp) (aw : Option Addr) : Prop := ∀ a, aw = some a → ∃ kvs, H a = some (.dK kvs)
theorem World.ne {aw : Option Addr} {H : Hp} (h : World aw H) : NT H aw := fun a e => by
  obtain ⟨_, _, _, h, _⟩ := h a e
  exact ⟨_, h⟩
theorem World.ext {aw : Option Addr} {H H' : Hp} (h : World aw H) (e : Ext aw H H') (ha : ∀ a, aw = some a → H' a = H a) : World aw H' := fun a ea => by
  obtain ⟨ld, n, ns, h1, h2, h3⟩ := h a ea
  exact ⟨ld, n, ns, by rw [ha a ea]; exact h1, e.ap ld _ fx_lst h2, h3⟩
theorem NT.new {aw : Option Addr} {H : Hp} {p : Addr} (n : NT H aw) (hp : H p = none) : some p ≠ aw := fun z => by
  obtain ⟨kvs, h⟩ := n p z.symm
  rw [hp] at h; cases h
/-- the script: known to the object, or an object of the module -/
def ScL (K : PySem.W.Frag) (H : Hp) (a : Addr) (xs : List V) : Prop := (∃ o, H a = some (.frz o (.lst xs))) ∨
  ∃ (o : Obj) (its : Array Value) (n : Nat), K.lookup a = some o ∧ o.cls = .type "list" ∧ o.dict = none ∧ o.data = .seq its n ∧ its.size ≤ sizeLine ∧ Vals xs its.toList
theorem ScL.sq {K : PySem.W.Frag} {H : Hp} {a : Addr} {xs : List V} (h : ScL K H a xs) : SqL K H a xs := by
  rcases h with ⟨o, h⟩ | h
  · exact .inl (.inr ⟨o, h⟩)
  · exact .inr h
theorem ScL.ext {K : PySem.W.Frag} {aw : Option Addr} {H H' : Hp} {a : Addr} {xs : List V} (h : ScL K H a xs) (e : Ext aw H H') : ScL K H' a xs := by
  rcases h with ⟨o, h⟩ | h
  · exact .inl ⟨o, e.ap _ _ fx_frz h⟩
  · exact .inr h

/-! ### what a value is worth -/
mutual
inductive Rp (K : PySem.W.Frag) (aw : Option Addr) (H : Hp) : V → D → Prop
  | non : Rp K aw H .non .none
  | bl (b : Bool) : Rp K aw H (.bl b) (.bool b)
  | int (i : Int) : Rp K aw H (.int i) (.int i)
  | str (x : Str) : Rp K aw H (.str x) (.str x)
  | lst {a : Addr} {xs : List V} {ds : List D} : H a = some (.lst xs) → RpA K aw H xs ds → Rp K aw H (.ref a) (.list ds)
  | tup {a : Addr} {xs : List V} {ds : List D} : SqT K H a xs → RpA K aw H xs ds → Rp K aw H (.ref a) (.tuple ds)
  | wld {a : Addr} {kvs : List (Key × V)} : aw = some a → H a = some (.dK kvs) → Rp K aw H (.ref a) (.dict [])
  | scr {a : Addr} {ns : List Int} : ScL K H a (ns.map V.int) → Rp K aw H (.ref a) (.dict [(.none, .list (ns.map PyData.int))])
inductive RpA (K : PySem.W.Frag) (aw : Option Addr) (H : Hp) : List V → List D → Prop
  | nil : RpA K aw H [] []
  | cons {v : V} {vs : List V} {d : D} {ds : List D} : Rp K aw H v d → RpA K aw H vs ds → RpA K aw H (v :: vs) (d :: ds)
end
theorem sqT_ext {K : PySem.W.Frag} {aw : Option Addr} {H H' : Hp} {a : Addr} {xs : List V} (hw : NT H aw) (e : Ext aw H H') (h : SqT K H a xs) : SqT K H' a xs := by
  rcases h with (h | ⟨o, h⟩) | h
  · exact .inl (.inl (e.ap _ _ fx_tup h))
  · exact .inl (.inr ⟨o, e.ap _ _ fx_frz h⟩)
  · exact .inr h
mutual
theorem Rp.ext {K : PySem.W.Frag} {aw : Option Addr} {H H' : Hp} (hw : NT H aw) (e : Ext aw H H') : ∀ {v : V} {d : D}, Rp K aw H v d → Rp K aw H' v d
  | _, _, .non => .non
  | _, _, .bl b => .bl b
  | _, _, .int b => .int b
  | _, _, .str b => .str b
  | _, _, .lst h r => .lst (e.ap _ _ fx_lst h) (RpA.ext hw e r)
  | _, _, .tup h r => .tup (sqT_ext hw e h) (RpA.ext hw e r)
  | _, _, .wld ea h => .wld ea (e.dk _ ea _ h).choose_spec
  | _, _, .scr h => .scr (h.ext e)
theorem RpA.ext {K : PySem.W.Frag} {aw : Option Addr} {H H' : Hp} (hw : NT H aw) (e : Ext aw H H') : ∀ {v : List V} {d : List D}, RpA K aw H v d → RpA K aw H' v d
  | _, _, .nil => .nil
  | _, _, .cons h r => .cons (Rp.ext hw e h) (RpA.ext hw e r)
end
section
variable {K : PySem.W.Frag} {aw : Option Addr} {H : Hp}
theorem RpA.length : ∀ {vs : List V} {ds : List D}, RpA K aw H vs ds → vs.length = ds.length
  | _, _, .nil => rfl
  | _, _, .cons _ r => by simp [RpA.length r]
theorem RpA.get : ∀ {vs : List V} {ds : List D} {i : Nat} {d : D}, RpA K aw H vs ds → ds[i]? = some d → ∃ v, vs[i]? = some v ∧ Rp K aw H v d
  | _, _, _, _, .nil, e => by simp at e
  | _, _, 0, _, .cons h _, e => by simp at e; subst e; exact ⟨_, rfl, h⟩
  | _, _, i + 1, _, .cons _ r, e => by
    obtain ⟨v, e1, e2⟩ := RpA.get (i := i) r (by simpa using e)
    exact ⟨v, by simpa using e1, e2⟩
theorem RpA.get' : ∀ {vs : List V} {ds : List D} {i : Nat} {v : V}, RpA K aw H vs ds → vs[i]? = some v → ∃ d, ds[i]? = some d ∧ Rp K aw H v d
  | _, _, _, _, .nil, e => by simp at e
  | _, _, 0, _, .cons h _, e => by simp at e; subst e; exact ⟨_, rfl, h⟩
  | _, _, i + 1, _, .cons _ r, e => by
    obtain ⟨v, e1, e2⟩ := RpA.get' (i := i) r (by simpa using e)
    exact ⟨v, by simpa using e1, e2⟩
theorem RpA.app : ∀ {vs ws : List V} {ds es : List D}, RpA K aw H vs ds → RpA K aw H ws es → RpA K aw H (vs ++ ws) (ds ++ es)
  | _, _, _, _, .nil, s => s
  | _, _, _, _, .cons h r, s => .cons h (RpA.app r s)
theorem RpA.take : ∀ {vs : List V} {ds : List D} (n : Nat), RpA K aw H vs ds → RpA K aw H (vs.take n) (ds.take n)
  | _, _, 0, _ => .nil
  | _, _, _ + 1, .nil => .nil
  | _, _, n + 1, .cons h r => .cons h (RpA.take n r)
theorem RpA.drop : ∀ {vs : List V} {ds : List D} (n : Nat), RpA K aw H vs ds → RpA K aw H (vs.drop n) (ds.drop n)
  | _, _, 0, r => r
  | _, _, _ + 1, .nil => .nil
  | _, _, n + 1, .cons _ r => RpA.drop n r
/-- no world within -/
def flatD : D → Bool
  | .dict _ => false
  | .list ds => flatA ds
  | .tuple ds => flatA ds
  | _ => true
where flatA : List D → Bool
  | [] => true
  | d :: ds => flatD d && flatA ds
mutual
theorem Rp.dp : ∀ {v : V} {d : D}, Rp K aw H v d → flatD d = true → Dp K H v d
  | _, _, .non, _ => .non
  | _, _, .bl b, _ => .bl b
  | _, _, .int b, _ => .int b
  | _, _, .str b, _ => .str b
  | _, _, .lst h r, f => .lst (.inl (.inl h)) (RpA.dp r (by simpa [flatD] using f))
  | _, _, .tup h r, f => .tup h (RpA.dp r (by simpa [flatD] using f))
  | _, _, .wld _ _, f => by simp [flatD] at f
  | _, _, .scr _, f => by simp [flatD] at f
theorem RpA.dp : ∀ {v : List V} {d : List D}, RpA K aw H v d → flatD.flatA d = true → DpAll K H v d
  | _, _, .nil, _ => .nil
  | _, _, .cons h r, f => by
    simp [flatD.flatA] at f
    exact .cons (Rp.dp h f.1) (RpA.dp r f.2)
end
theorem dp_less {B : List Addr} {v : V} {d : D} (h : Dp K (cut H B) v d) : Dp K H v d := by
  have key : (∀ v d, Dp K (cut H B) v d → Dp K H v d) ∧ (∀ vs ds, DpAll K (cut H B) vs ds → DpAll K H vs ds) := by
    have hl : ∀ a xs, SqL K (cut H B) a xs → SqL K H a xs := fun a xs h => by
      rcases h with (h | ⟨o, h⟩) | h
      · exact .inl (.inl (cut_some h).1)
      · exact .inl (.inr ⟨o, (cut_some h).1⟩)
      · exact .inr h
    have ht : ∀ a xs, SqT K (cut H B) a xs → SqT K H a xs := fun a xs h => by
      rcases h with (h | ⟨o, h⟩) | h
      · exact .inl (.inl (cut_some h).1)
      · exact .inl (.inr ⟨o, (cut_some h).1⟩)
      · exact .inr h
    constructor
    · intro v d h
      exact Dp.rec (motive_1 := fun v d _ => Dp K H v d) (motive_2 := fun vs ds _ => DpAll K H vs ds) .non .bl .int .str (fun h _ r => .lst (hl _ _ h) r) (fun h _ r => .tup (ht _ _ h) r) .nil (fun _ _ a b => .cons a b) h
    · intro v d h
      exact DpAll.rec (motive_1 := fun v d _ => Dp K H v d) (motive_2 := fun vs ds _ => DpAll K H vs ds) .non .bl .int .str (fun h _ r => .lst (hl _ _ h) r) (fun h _ r => .tup (ht _ _ h) r) .nil (fun _ _ a b => .cons a b) h
  exact key.1 v d h
end
theorem sqT_less {K : PySem.W.Frag} {H : Hp} {B : List Addr} {a : Addr} {xs : List V} (h : SqT K (cut H B) a xs) : SqT K H a xs := by
  rcases h with (h | ⟨o, h⟩) | h
  · exact .inl (.inl (cut_some h).1)
  · exact .inl (.inr ⟨o, (cut_some h).1⟩)
  · exact .inr h

/-! ### a state -/
/-- what a def found at its entry: the heap, the own lists of its callers -/
structure Gh where
  H0 : Hp
  Bc : List Addr
def SlOk (K : PySem.W.Frag) (aw : Option Addr) (G : Gh) (H : Hp) (B : List Addr) (s : Option V) : Sl → Prop
  | .no => True
  | .va d => ∃ v, s = some v ∧ Rp K aw (cut H B) v d
  | .ow ds => ∃ p xs, s = some (.ref p) ∧ p ∈ B ∧ G.H0 p = none ∧ p ∉ G.Bc ∧ H p = some (.lst xs) ∧ RpA K aw (cut H B) xs ds
/-- own lists stand apart -/
def Apart (σ : L2.St) (ρ : En) : Prop := ∀ (i j : Nat) (p : Addr) (ds es : List D), ρ[i]? = some (Sl.ow ds) → ρ[j]? = some (Sl.ow es) → σ[i]? = some (some (V.ref p)) → σ[j]? = some (some (V.ref p)) → i = j
structure Ok (K : PySem.W.Frag) (aw : Option Addr) (G : Gh) (B : List Addr) (σ : L2.St) (ρ : En) (H : Hp) : Prop where
  ext : Ext aw G.H0 H
  wld : World aw (cut H B)
  sub : ∀ p ∈ G.Bc, p ∈ B
  own : ∀ p ∈ B, ∃ xs, H p = some (.lst xs)
  len : σ.length = ρ.length
  env : ∀ (i : Nat) (s : Sl), ρ[i]? = some s → SlOk K aw G H B (σ[i]?.getD none) s
  apart : Apart σ ρ
section
variable {K : PySem.W.Frag} {aw : Option Addr} {G : Gh} {B : List Addr} {σ : L2.St} {ρ : En} {H H' : Hp}
theorem Ok.awB (o : Ok K aw G B σ ρ H) : ∀ a, aw = some a → a ∉ B := fun a ea z => by
  obtain ⟨kvs, h⟩ := o.wld.ne a ea
  exact (cut_some h).2 z
theorem Ok.grow (o : Ok K aw G B σ ρ H) (e : Ext aw H H') (w : World aw (cut H' B)) : Ok K aw G B σ ρ H' where
  ext := o.ext.trans e
  wld := w
  sub := o.sub
  own := fun p hp => by
    obtain ⟨xs, h⟩ := o.own p hp
    exact ⟨xs, e.ap p _ fx_lst h⟩
  len := o.len
  env := fun i s hs => by
    have q := o.env i s hs
    have ec : Ext aw (cut H B) (cut H' B) := cut_ext e
    cases s with
    | no => trivial
    | va d => obtain ⟨v, e1, r⟩ := q; exact ⟨v, e1, r.ext o.wld.ne ec⟩
    | ow ds => obtain ⟨p, xs, e1, hp, h0, hc, hx, r⟩ := q; exact ⟨p, xs, e1, hp, h0, hc, e.ap p _ fx_lst hx, RpA.ext o.wld.ne ec r⟩
  apart := o.apart
theorem Ok.get (o : Ok K aw G B σ ρ H) {i : Nat} {d : D} (h : ρ[i]? = some (.va d)) : ∃ v, σ[i]? = some (some v) ∧ Rp K aw (cut H B) v d := by
  obtain ⟨v, e, r⟩ := o.env i _ h
  refine ⟨v, ?_, r⟩
  cases q : σ[i]? with
  | none => rw [q] at e; cases e
  | some s => rw [q] at e; exact congrArg some e
theorem Ok.getO (o : Ok K aw G B σ ρ H) {i : Nat} {ds : List D} (h : ρ[i]? = some (.ow ds)) : ∃ p xs, σ[i]? = some (some (.ref p)) ∧ p ∈ B ∧ G.H0 p = none ∧ p ∉ G.Bc ∧ H p = some (.lst xs) ∧ RpA K aw (cut H B) xs ds := by
  obtain ⟨p, xs, e, r⟩ := o.env i _ h
  refine ⟨p, xs, ?_, r⟩
  cases q : σ[i]? with
  | none => rw [q] at e; cases e
  | some s => rw [q] at e; exact congrArg some e
theorem set_ow {ρ : En} {i j : Nat} {d : Sl} {ds : List D} (hd : ∀ es, d ≠ .ow es) (h : (ρ.set i d)[j]? = some (Sl.ow ds)) : i ≠ j ∧ ρ[j]? = some (Sl.ow ds) := by
  by_cases e : i = j
  · subst e
    by_cases hi : i < ρ.length
    · rw [List.getElem?_set_self hi] at h; exact absurd (Option.some.inj h) (hd _)
    · rw [List.getElem?_eq_none (by simpa using hi)] at h; cases h
  · rw [List.getElem?_set_ne e] at h; exact ⟨e, h⟩
/-- a value into a slot -/
theorem Ok.set (o : Ok K aw G B σ ρ H) {v : V} {d : D} (r : Rp K aw (cut H B) v d) (i : Nat) : Ok K aw G B (σ.set i (some v)) (ρ.set i (.va d)) H where
  ext := o.ext
  wld := o.wld
  sub := o.sub
  own := o.own
  len := by simp [o.len]
  env := fun j s hs => by
    by_cases e : i = j
    · subst e
      by_cases hi : i < ρ.length
      · rw [List.getElem?_set_self hi] at hs
        cases hs
        rw [List.getElem?_set_self (by rw [o.len]; exact hi)]
        exact ⟨v, rfl, r⟩
      · rw [List.getElem?_eq_none (by simpa using hi)] at hs; cases hs
    · rw [List.getElem?_set_ne e] at hs
      rw [List.getElem?_set_ne e]
      exact o.env j s hs
  apart := fun j k p ds es h1 h2 h3 h4 => by
    obtain ⟨nj, h1⟩ := set_ow (fun _ z => by cases z) h1
    obtain ⟨nk, h2⟩ := set_ow (fun _ z => by cases z) h2
    rw [List.getElem?_set_ne nj] at h3
    rw [List.getElem?_set_ne nk] at h4
    exact o.apart j k p ds es h1 h2 h3 h4
end

/-! ### the readings -/
def tM (K : PySem.W.Frag) (aw : Option Addr) (m : En → M D) : TE := fun σ H R => ∃ G B ρ Q, Ok K aw G B σ ρ H ∧ m ρ Q ∧ ∀ v H' d, Ext aw H H' → World aw (cut H' B) → Rp K aw (cut H' B) v d → Q d → R v H'
def tT (K : PySem.W.Frag) (aw : Option Addr) (m : En → M Bool) : TT := fun σ H R => ∃ G B ρ Q, Ok K aw G B σ ρ H ∧ m ρ Q ∧ ∀ H' b, Ext aw H H' → World aw (cut H' B) → Q b → R b H'
def tA (K : PySem.W.Frag) (aw : Option Addr) (m : En → M (List D)) : TA := fun σ H R => ∃ G B ρ Q, Ok K aw G B σ ρ H ∧ m ρ Q ∧ ∀ vs H' ds, Ext aw H H' → World aw (cut H' B) → RpA K aw (cut H' B) vs ds → Q ds → R vs H'
abbrev SE (X : Cx) (aw : Option Addr) (e : Expr) (m : En → M D) : Prop := PE X e (tM X.K aw m)
abbrev ST (X : Cx) (aw : Option Addr) (e : Expr) (m : En → M Bool) : Prop := PT X e (tT X.K aw m)
abbrev SA (X : Cx) (aw : Option Addr) (es : List Expr) (m : En → M (List D)) : Prop := PA X es (tA X.K aw m)
theorem pe_to {X : Cx} {e : Expr} {t t' : TE} (h : PE X e t) (i : ∀ σ H R, t' σ H R → t σ H R) : PE X e t' := ⟨fun pins s σ H Q I q => h.run pins s σ H Q I (i σ H Q q)⟩
theorem pt_to {X : Cx} {e : Expr} {t t' : TT} (h : PT X e t) (i : ∀ σ H R, t' σ H R → t σ H R) : PT X e t' := ⟨fun pins s σ H Q I q => h.run pins s σ H Q I (i σ H Q q)⟩
theorem pw_to {X : Cx} {e : Expr} {t t' : TT} (h : PW X e t) (i : ∀ σ H R, t' σ H R → t σ H R) : PW X e t' := ⟨fun wh pins s σ H Q I q => h.run wh pins s σ H Q I (i σ H Q q)⟩
theorem pa_to {X : Cx} {e : List Expr} {t t' : TA} (h : PA X e t) (i : ∀ σ H R, t' σ H R → t σ H R) : PA X e t' := ⟨fun pos pins s σ H Q I q => h.run pos pins s σ H Q I (i σ H Q q)⟩
theorem ps_to {X : Cx} {e : Stmt} {t t' : TS} (h : PS X e t) (i : ∀ D σ H, t' D σ H → t D σ H) : PS X e t' := ⟨fun pins s σ H D I q => h.run pins s σ H D I (i D σ H q)⟩
theorem pss_to {X : Cx} {e : List Stmt} {t t' : TS} (h : PSs X e t) (i : ∀ D σ H, t' D σ H → t D σ H) : PSs X e t' := ⟨fun pins s σ H D I q => h.run pins s σ H D I (i D σ H q)⟩

/-! ### expressions -/
def eVar (i : Nat) : En → M D := fun ρ Q => match ρ[i]? with
  | some (.va d) => Q d
  | _ => False
def eC (d : D) : En → M D := fun _ Q => Q d
section
variable {X : Cx} {aw : Option Addr} {a b : Expr} {m n : En → M D} {pos : Pos}
theorem se_var {i : Nat} {x : Str} (h : PE X (.Name x pos) (tVar i)) : SE X aw (.Name x pos) (eVar i) := pe_to h fun σ H R => by
  rintro ⟨G, B, ρ, Q, o, hm, k⟩
  unfold eVar at hm
  split at hm
  · rename_i d hd
    obtain ⟨v, e, r⟩ := o.get hd
    exact ⟨v, e, k v H d (.refl _ _) o.wld r hm⟩
  · cases hm
theorem se_c {e : Expr} {v : V} {d : D} (h : PE X e (tC v)) (r : ∀ H, Rp X.K aw H v d) : SE X aw e (eC d) := pe_to h fun σ H R => by
  rintro ⟨G, B, ρ, Q, o, hm, k⟩
  exact k v H d (.refl _ _) o.wld (r _) hm
theorem se_int {i : Int} {j} : SE X aw (.Constant (.int i) j pos) (eC (.int i)) := se_c pe_int fun _ => .int _
theorem se_bl {i : Bool} {j} : SE X aw (.Constant (.bool i) j pos) (eC (.bool i)) := se_c pe_bl fun _ => .bl _
theorem se_non {j} : SE X aw (.Constant .none j pos) (eC .none) := se_c pe_non fun _ => .non
theorem se_str {i : Str} {j} : SE X aw (.Constant (.str i) j pos) (eC (.str i)) := se_c pe_str fun _ => .str _

/-- what an operation makes of two data -/
def eOp (f : D → D → M D) (m n : En → M D) : En → M D := fun ρ Q => m ρ fun x => n ρ fun y => f x y Q
/-- an operator's reading serves a plain one -/
def OpOk (K : PySem.W.Frag) (aw : Option Addr) (r : R2) (f : D → D → M D) : Prop := ∀ (H : Hp) (B : List Addr) (x y : V) (d e : D) (Q : D → Prop) (R : VK), World aw (cut H B) → (∀ p ∈ B, ∃ xs, H p = some (.lst xs)) → Rp K aw (cut H B) x d → Rp K aw (cut H B) y e → f d e Q →
  (∀ v H' z, Ext aw H H' → World aw (cut H' B) → Rp K aw (cut H' B) v z → Q z → R v H') → r x y H R
theorem op_reads {K : PySem.W.Frag} {r : R2} {f : D → D → M D} (h : OpOk K aw r f) : ∀ σ H R, tM K aw (eOp f m n) σ H R → tOp r (tM K aw m) (tM K aw n) σ H R := fun σ H R => by
  rintro ⟨G, B, ρ, Q, o, hm, k⟩
  refine ⟨G, B, ρ, _, o, hm, fun x H1 d e1 w1 r1 q1 => ?_⟩
  have o1 := o.grow e1 w1
  refine ⟨G, B, ρ, _, o1, q1, fun y H2 e e2 w2 r2 q2 => ?_⟩
  have o2 := o1.grow e2 w2
  exact h H2 B x y d e Q R w2 o2.own (r1.ext w1.ne (cut_ext e2)) r2 q2 fun v H' z e3 w3 r3 q3 => k v H' z (e1.trans (e2.trans e3)) w3 r3 q3
theorem se_op {op : Operator} {r : R2} {f : D → D → M D} (ho : OpR X (binaryOp op) r) (h : OpOk X.K aw r f) (ha : SE X aw a m) (hb : SE X aw b n) : SE X aw (.BinOp a op b pos) (eOp f m n) := pe_to (pe_op ho ha hb) (op_reads h)
theorem se_cmp {op : CmpOp} {r : R2} {f : D → D → M D} (ho : OpR X (compareOp op) r) (h : OpOk X.K aw r f) (ha : SE X aw a m) (hb : SE X aw b n) (hm : behindInMarks op b = false) : SE X aw (.Compare a [op] [b] pos) (eOp f m n) := pe_to (pe_cmpR ho ha hb hm) (op_reads h)
end


/-! ### plain operations -/
def fI (C : Int → Int → Prop) (g : Int → Int → D) : D → D → M D := fun x y Q => match x, y with
  | .int i, .int j => C i j ∧ Q (g i j)
  | _, _ => False
def fAdd := fI (fun _ _ => True) fun i j => .int (i + j)
def fSub := fI (fun _ _ => True) fun i j => .int (i - j)
def fMul := fI CMulW fun i j => .int (i * j)
def CDv (_ j : Int) : Prop := j ≠ 0 ∧ j.natAbs.log2 < 9000
def fDiv := fI CDv fun i j => .int (i.fdiv j)
def fMod := fI (fun _ j => j ≠ 0) fun i j => .int (i.fmod j)
def fLt := fI (fun _ _ => True) fun i j => .bool (decide (i < j))
def fLe := fI (fun _ _ => True) fun i j => .bool (decide (i ≤ j))
def fGt := fI (fun _ _ => True) fun i j => .bool (decide (j < i))
def fGe := fI (fun _ _ => True) fun i j => .bool (decide (j ≤ i))
def fPow := fI CPow fun i j => .int (i ^ j.toNat)
def okD (d : D) : Prop := flatD d = true ∧ SeqAt.shaped d = true
def fEq : D → D → M D := fun x y Q => okD x ∧ okD y ∧ Q (.bool (PyData.eqv x y))
def fNe : D → D → M D := fun x y Q => okD x ∧ okD y ∧ Q (.bool (!PyData.eqv x y))
def fIn : D → D → M D := fun x y Q => match y with
  | .list ds => okD x ∧ okD (.list ds) ∧ Q (.bool (ds.any fun z => PyData.eqv z x))
  | _ => False
def fNotIn : D → D → M D := fun x y Q => match y with
  | .list ds => okD x ∧ okD (.list ds) ∧ Q (.bool (!ds.any fun z => PyData.eqv z x))
  | _ => False
def fIsN : D → D → M D := fun x y Q => y = .none ∧ match x with
  | .none => Q (.bool true)
  | .dict _ => False
  | _ => Q (.bool false)
def fNotN : D → D → M D := fun x y Q => y = .none ∧ match x with
  | .none => Q (.bool false)
  | .dict _ => False
  | _ => Q (.bool true)
def fIsB : D → D → M D := fun x y Q => match x, y with
  | .bool a, .bool b => Q (.bool (decide (a = b)))
  | _, _ => False
def fNotB : D → D → M D := fun x y Q => match x, y with
  | .bool a, .bool b => Q (.bool (!decide (a = b)))
  | _, _ => False
def fCatL : D → D → M D := fun x y Q => match x, y with
  | .list a, .list b => a.length + b.length ≤ 100000 ∧ Q (.list (a ++ b))
  | _, _ => False
def fCatS : D → D → M D := fun x y Q => match x, y with
  | .str a, .str b => a.length + b.length ≤ 100000 ∧ Q (.str (a ++ b))
  | _, _ => False
/-- an item, from the end too -/
def fIx : D → D → M D := fun x y Q => match x, y with
  | .list ds, .int i => match atI ds i with
    | some d => Q d
    | none => False
  | .tuple ds, .int i => match atI ds i with
    | some d => Q d
    | none => False
  | .dict [(.none, .list ds)], .int i => match atI ds i with
    | some d => Q d
    | none => False
  | _, _ => False

theorem le_line {n : Nat} (h : n ≤ 100000) : n ≤ sizeLine := Nat.le_trans h (by decide)
theorem lt_line {n : Nat} (h : n < 100000) : n < sizeLine := Nat.lt_of_lt_of_le h (by decide)

section
variable {X : Cx} {K : PySem.W.Frag} {aw : Option Addr}
theorem ok_rI {C C' : Int → Int → Prop} {g : Int → Int → V} {g' : Int → Int → D} (hc : ∀ i j, C' i j → C i j) (hg : ∀ i j, Rp K aw (fun _ => none) (g i j) (g' i j)) (hf : ∀ i j H, Rp K aw H (g i j) (g' i j)) : OpOk K aw (rI C g) (fI C' g') := by
  intro H B x y d e Q R w _ rx ry q k
  unfold fI at q
  split at q
  · rename_i i j
    cases rx
    cases ry
    exact ⟨i, j, rfl, rfl, hc i j q.1, k _ H _ (.refl _ _) w (hf i j _) q.2⟩
  · cases q
theorem ok_rI0 {g : Int → Int → V} {g' : Int → Int → D} (hf : ∀ i j H, Rp K aw H (g i j) (g' i j)) : OpOk K aw (rI0 g) (fI (fun _ _ => True) g') := by
  intro H B x y d e Q R w _ rx ry q k
  unfold fI at q
  split at q
  · rename_i i j
    cases rx
    cases ry
    exact ⟨i, j, rfl, rfl, k _ H _ (.refl _ _) w (hf i j _) q.2⟩
  · cases q
theorem ok_add : OpOk K aw (rI0 fun i j => .int (i + j)) fAdd := ok_rI0 fun _ _ _ => .int _
theorem ok_sub : OpOk K aw (rI0 fun i j => .int (i - j)) fSub := ok_rI0 fun _ _ _ => .int _
theorem ok_mul : OpOk K aw (rI CMulW fun i j => .int (i * j)) fMul := ok_rI (fun _ _ h => h) (fun _ _ => .int _) fun _ _ _ => .int _
theorem op_divW : OpR X (binaryOp .FloorDiv) (rI CDv fun i j => .int (i.fdiv j)) := opI fun _ _ _ _ _ _ _ hc q => floordiv_int hc.1 q (.inl (PyProof.noPylong_of_log2 hc.2))
theorem ok_div : OpOk K aw (rI CDv fun i j => .int (i.fdiv j)) fDiv := ok_rI (fun _ _ h => h) (fun _ _ => .int _) fun _ _ _ => .int _
theorem ok_mod : OpOk K aw (rI (fun _ j => j ≠ 0) fun i j => .int (i.fmod j)) fMod := ok_rI (fun _ _ h => h) (fun _ _ => .int _) fun _ _ _ => .int _
theorem ok_pow : OpOk K aw (rI CPow fun i j => .int (i ^ j.toNat)) fPow := ok_rI (fun _ _ h => h) (fun _ _ => .int _) fun _ _ _ => .int _
theorem ok_lt : OpOk K aw (rI0 fun i j => .bl (decide (i < j))) fLt := ok_rI0 fun _ _ _ => .bl _
theorem ok_le : OpOk K aw (rI0 fun i j => .bl (decide (i ≤ j))) fLe := ok_rI0 fun _ _ _ => .bl _
theorem ok_gt : OpOk K aw (rI0 fun i j => .bl (decide (j < i))) fGt := ok_rI0 fun _ _ _ => .bl _
theorem ok_ge : OpOk K aw (rI0 fun i j => .bl (decide (j ≤ i))) fGe := ok_rI0 fun _ _ _ => .bl _
theorem ok_eq : OpOk K aw (rEqD K) fEq := by
  intro H B x y d e Q R w _ rx ry q k
  exact ⟨d, e, dp_less (rx.dp q.1.1), dp_less (ry.dp q.2.1.1), q.1.2, q.2.1.2, k _ H _ (.refl _ _) w (.bl _) q.2.2⟩
theorem ok_ne : OpOk K aw (rNeD K) fNe := by
  intro H B x y d e Q R w _ rx ry q k
  exact ⟨d, e, dp_less (rx.dp q.1.1), dp_less (ry.dp q.2.1.1), q.1.2, q.2.1.2, k _ H _ (.refl _ _) w (.bl _) q.2.2⟩
theorem ok_in : OpOk K aw (rInD K) fIn := by
  intro H B x y d e Q R w _ rx ry q k
  unfold fIn at q
  split at q
  · rename_i ds
    exact ⟨d, ds, dp_less (rx.dp q.1.1), dp_less (ry.dp q.2.1.1), q.1.2, q.2.1.2, k _ H _ (.refl _ _) w (.bl _) q.2.2⟩
  · cases q
theorem ok_notIn : OpOk K aw (rNotInD K) fNotIn := by
  intro H B x y d e Q R w _ rx ry q k
  unfold fNotIn at q
  split at q
  · rename_i ds
    exact ⟨d, ds, dp_less (rx.dp q.1.1), dp_less (ry.dp q.2.1.1), q.1.2, q.2.1.2, k _ H _ (.refl _ _) w (.bl _) q.2.2⟩
  · cases q
theorem ok_isN : OpOk K aw (fun x y H Q => y = .non ∧ Q (.bl (decide (x = .non))) H) fIsN := by
  intro H B x y d e Q R w _ rx ry q k
  obtain ⟨rfl, q⟩ := q
  cases ry
  refine ⟨rfl, ?_⟩
  have fin : ∀ b : Bool, Q (.bool b) → R (.bl b) H := fun b h => k _ H _ (.refl _ _) w (.bl _) h
  cases rx <;> first | exact fin _ q | exact q.elim
theorem ok_notN : OpOk K aw (fun x y H Q => y = .non ∧ Q (.bl (!decide (x = .non))) H) fNotN := by
  intro H B x y d e Q R w _ rx ry q k
  obtain ⟨rfl, q⟩ := q
  cases ry
  refine ⟨rfl, ?_⟩
  have fin : ∀ b : Bool, Q (.bool b) → R (.bl b) H := fun b h => k _ H _ (.refl _ _) w (.bl _) h
  cases rx <;> first | exact fin _ q | exact q.elim
theorem ok_isB : OpOk K aw rIsB fIsB := by
  intro H B x y d e Q R w _ rx ry q k
  unfold fIsB at q
  split at q
  · cases rx
    cases ry
    exact ⟨_, _, rfl, rfl, k _ H _ (.refl _ _) w (.bl _) q⟩
  · cases q
theorem ok_notB : OpOk K aw rNotB fNotB := by
  intro H B x y d e Q R w _ rx ry q k
  unfold fNotB at q
  split at q
  · cases rx
    cases ry
    exact ⟨_, _, rfl, rfl, k _ H _ (.refl _ _) w (.bl _) q⟩
  · cases q
theorem new_cut {H : Hp} {B : List Addr} {p : Addr} {o : HO} (hp : H p = none) (hB : ∀ q ∈ B, ∃ xs, H q = some (.lst xs)) : cut (upd H p o) B p = some o := cut_of upd_same fun z => by
  obtain ⟨xs, h⟩ := hB p z
  rw [hp] at h; cases h
/-- behind a new object -/
theorem World.fresh {H : Hp} {B : List Addr} {p : Addr} {o : HO} (w : World aw (cut H B)) (hp : H p = none) : World aw (cut (upd H p o) B) := by
  refine w.ext (cut_ext (.new hp)) ?_
  intro a ea
  obtain ⟨kvs, h⟩ := w.ne a ea
  obtain ⟨h1, h2⟩ := cut_some h
  unfold cut
  rw [if_neg h2, if_neg h2, upd_ne (ne_of_none h1 hp)]
theorem rp_new {H : Hp} {B : List Addr} {p : Addr} {o : HO} {v : V} {d : D} (w : World aw (cut H B)) (hp : H p = none) (r : Rp K aw (cut H B) v d) : Rp K aw (cut (upd H p o) B) v d := r.ext w.ne (cut_ext (.new hp))
theorem rpA_new {H : Hp} {B : List Addr} {p : Addr} {o : HO} {v : List V} {d : List D} (w : World aw (cut H B)) (hp : H p = none) (r : RpA K aw (cut H B) v d) : RpA K aw (cut (upd H p o) B) v d := r.ext w.ne (cut_ext (.new hp))
theorem ok_catL : OpOk K aw rCat fCatL := by
  intro H B x y d e Q R w hB rx ry q k
  unfold fCatL at q
  split at q
  · rename_i a b
    cases rx with
    | lst h1 r1 =>
    cases ry with
    | lst h2 r2 =>
    refine ⟨_, _, _, _, rfl, rfl, (cut_some h1).1, (cut_some h2).1, by rw [r1.length, r2.length]; exact le_line q.1, fun p hp => ?_⟩
    exact k _ _ _ (.new hp) (w.fresh hp) (.lst (new_cut hp hB) (rpA_new w hp (r1.app r2))) q.2
  · cases q
theorem ok_catS : OpOk K aw (fun x y H Q => ∃ i j, x = .str i ∧ y = .str j ∧ i.length + j.length ≤ sizeLine ∧ Q (.str (i ++ j)) H) fCatS := by
  intro H B x y d e Q R w hB rx ry q k
  unfold fCatS at q
  split at q
  · cases rx
    cases ry
    exact ⟨_, _, rfl, rfl, le_line q.1, k _ H _ (.refl _ _) w (.str _) q.2⟩
  · cases q
theorem RpA.atI {H : Hp} {xs : List V} {ds : List D} {i : Int} {d : D} (r : RpA K aw H xs ds) (h : L2.atI ds i = some d) : ∃ v, L2.atI xs i = some v ∧ Rp K aw H v d := by
  unfold L2.atI at h ⊢
  rw [r.length]
  cases e : ixN ds.length i with
  | none => rw [e] at h; cases h
  | some j =>
    rw [e] at h
    obtain ⟨v, e1, e2⟩ := r.get (show ds[j]? = some d from h)
    exact ⟨v, e1, e2⟩
theorem ScL.less {H : Hp} {B : List Addr} {a : Addr} {xs : List V} (h : ScL K (cut H B) a xs) : ScL K H a xs := by
  rcases h with ⟨o, h⟩ | h
  · exact .inl ⟨o, (cut_some h).1⟩
  · exact .inr h
theorem rpA_ints {H : Hp} : ∀ ns : List Int, RpA K aw H (ns.map V.int) (ns.map PyData.int)
  | [] => .nil
  | n :: ns => .cons (.int n) (rpA_ints ns)
theorem ok_ix : OpOk K aw (rIx K) fIx := by
  intro H B x y d e Q R w hB rx ry q k
  unfold fIx at q
  split at q
  · split at q
    · rename_i d' hd
      cases rx with
      | lst h1 r1 =>
      cases ry
      obtain ⟨v, e1, e2⟩ := r1.atI hd
      exact .inl ⟨_, _, _, v, rfl, rfl, .inl (.inl (cut_some h1).1), e1, k _ H _ (.refl _ _) w e2 q⟩
    · cases q
  · split at q
    · rename_i d' hd
      cases rx with
      | tup h1 r1 =>
      cases ry
      obtain ⟨v, e1, e2⟩ := r1.atI hd
      exact .inr (.inl ⟨_, _, _, v, rfl, rfl, sqT_less h1, e1, k _ H _ (.refl _ _) w e2 q⟩)
    · cases q
  · split at q
    · rename_i d' hd
      cases rx with
      | scr h1 =>
      cases ry
      obtain ⟨v, e1, e2⟩ := (rpA_ints _).atI hd
      exact .inl ⟨_, _, _, v, rfl, rfl, (h1.less).sq, e1, k _ H _ (.refl _ _) w e2 q⟩
    · cases q
  · cases q
end

/-! ### short forms for derivations -/
section
variable {X : Cx} {aw : Option Addr} {a b c : Expr} {m n l : En → M D} {pos : Pos}
theorem se_add (ha : SE X aw a m) (hb : SE X aw b n) : SE X aw (.BinOp a .Add b pos) (eOp fAdd m n) := se_op op_add ok_add ha hb
theorem se_sub (ha : SE X aw a m) (hb : SE X aw b n) : SE X aw (.BinOp a .Sub b pos) (eOp fSub m n) := se_op op_sub ok_sub ha hb
theorem se_mul (ha : SE X aw a m) (hb : SE X aw b n) : SE X aw (.BinOp a .Mult b pos) (eOp fMul m n) := se_op op_mulW ok_mul ha hb
theorem se_div (ha : SE X aw a m) (hb : SE X aw b n) : SE X aw (.BinOp a .FloorDiv b pos) (eOp fDiv m n) := se_op op_divW ok_div ha hb
theorem se_mod (ha : SE X aw a m) (hb : SE X aw b n) : SE X aw (.BinOp a .Mod b pos) (eOp fMod m n) := se_op op_modN ok_mod ha hb
theorem se_pow (ha : SE X aw a m) (hb : SE X aw b n) : SE X aw (.BinOp a .Pow b pos) (eOp fPow m n) := se_op op_pow ok_pow ha hb
theorem se_catL (ha : SE X aw a m) (hb : SE X aw b n) : SE X aw (.BinOp a .Add b pos) (eOp fCatL m n) := se_op op_cat ok_catL ha hb
theorem se_catS (ha : SE X aw a m) (hb : SE X aw b n) : SE X aw (.BinOp a .Add b pos) (eOp fCatS m n) := se_op op_add_str ok_catS ha hb
theorem se_lt (ha : SE X aw a m) (hb : SE X aw b n) : SE X aw (.Compare a [.Lt] [b] pos) (eOp fLt m n) := se_cmp op_lt ok_lt ha hb (nobehind b (by decide) (by decide))
theorem se_le (ha : SE X aw a m) (hb : SE X aw b n) : SE X aw (.Compare a [.LtE] [b] pos) (eOp fLe m n) := se_cmp op_le ok_le ha hb (nobehind b (by decide) (by decide))
theorem se_gt (ha : SE X aw a m) (hb : SE X aw b n) : SE X aw (.Compare a [.Gt] [b] pos) (eOp fGt m n) := se_cmp op_gt ok_gt ha hb (nobehind b (by decide) (by decide))
theorem se_ge (ha : SE X aw a m) (hb : SE X aw b n) : SE X aw (.Compare a [.GtE] [b] pos) (eOp fGe m n) := se_cmp op_ge ok_ge ha hb (nobehind b (by decide) (by decide))
theorem se_isN (ha : SE X aw a m) (hb : SE X aw b n) : SE X aw (.Compare a [.Is] [b] pos) (eOp fIsN m n) := se_cmp op_isN ok_isN ha hb (nobehind b (by decide) (by decide))
theorem se_notN (ha : SE X aw a m) (hb : SE X aw b n) : SE X aw (.Compare a [.IsNot] [b] pos) (eOp fNotN m n) := se_cmp op_notN ok_notN ha hb (nobehind b (by decide) (by decide))
theorem se_isB (ha : SE X aw a m) (hb : SE X aw b n) : SE X aw (.Compare a [.Is] [b] pos) (eOp fIsB m n) := se_cmp op_isBl ok_isB ha hb (nobehind b (by decide) (by decide))
theorem se_notB (ha : SE X aw a m) (hb : SE X aw b n) : SE X aw (.Compare a [.IsNot] [b] pos) (eOp fNotB m n) := se_cmp op_notBl ok_notB ha hb (nobehind b (by decide) (by decide))
theorem room64 {k : Nat} {A : Around} (r : Room k A) : A.units + 64 < cLine := by have := r.un; omega
theorem room65 {k : Nat} {A : Around} (r : Room k A) : A.units + 65 < cLine := by have := r.un; omega
theorem se_eq {k : Nat} (hr : Room k X.A) (ha : SE X aw a m) (hb : SE X aw b n) : SE X aw (.Compare a [.Eq] [b] pos) (eOp fEq m n) := se_cmp (op_eqD (room64 hr)) ok_eq ha hb (nobehind b (by decide) (by decide))
theorem se_ne {k : Nat} (hr : Room k X.A) (ha : SE X aw a m) (hb : SE X aw b n) : SE X aw (.Compare a [.NotEq] [b] pos) (eOp fNe m n) := se_cmp (op_neD (room64 hr)) ok_ne ha hb (nobehind b (by decide) (by decide))
end


/-! ### tests -/
def eT (m : En → M D) : En → M Bool := fun ρ Q => m ρ fun d => match d with
  | .bool b => Q b
  | _ => False
def mAnd (t u : En → M Bool) : En → M Bool := fun ρ Q => t ρ fun b => if b = true then u ρ Q else Q false
def mOr (t u : En → M Bool) : En → M Bool := fun ρ Q => t ρ fun b => if b = true then Q true else u ρ Q
def mNot (t : En → M Bool) : En → M Bool := fun ρ Q => t ρ fun b => Q (!b)
def eAnd (m n : En → M D) : En → M D := fun ρ Q => m ρ fun d => match d with
  | .bool b => if b = true then n ρ Q else Q (.bool false)
  | _ => False
def eOr (m n : En → M D) : En → M D := fun ρ Q => m ρ fun d => match d with
  | .bool b => if b = true then Q (.bool true) else n ρ Q
  | _ => False
def eNot (m : En → M D) : En → M D := fun ρ Q => m ρ fun d => match d with
  | .bool b => Q (.bool (!b))
  | _ => False
def eIf (t : En → M Bool) (m n : En → M D) : En → M D := fun ρ Q => t ρ fun b => if b = true then m ρ Q else n ρ Q
section
variable {X : Cx} {aw : Option Addr} {a b c : Expr} {m n l : En → M D} {t u : En → M Bool} {pos : Pos} {rest : List Expr}
theorem st_of {te : TE} (hi : ∀ σ H R, tM X.K aw m σ H R → te σ H R) (h : PT X a (tB te)) : ST X aw a (eT m) := pt_to h fun σ H R => by
  rintro ⟨G, B, ρ, Q, o, hm, k⟩
  refine hi σ H _ ⟨G, B, ρ, _, o, hm, fun v H' d e w r q => ?_⟩
  cases d with
  | bool bb => cases r; exact ⟨bb, rfl, k H' bb e w q⟩
  | _ => cases q
theorem st_val (h : SE X aw a m) (he : ∀ whole, isTrue a X.env whole = (do let v ← whole; standAt a.pos; holding [v] (truthy v)) := by intro _; rfl) : ST X aw a (eT m) := st_of (fun _ _ _ h => h) (pt_val h he)
theorem st_op {op : CmpOp} {r : R2} {f : D → D → M D} (ho : OpR X (compareOp op) r) (h : OpOk X.K aw r f) (ha : SE X aw a m) (hb : SE X aw b n) (hm : behindInMarks op b = false) : ST X aw (.Compare a [op] [b] pos) (eT (eOp f m n)) :=
  st_of (op_reads h) (pt_cmpR ho ha hb hm)
theorem st_lt (ha : SE X aw a m) (hb : SE X aw b n) : ST X aw (.Compare a [.Lt] [b] pos) (eT (eOp fLt m n)) := st_op op_lt ok_lt ha hb (nobehind b (by decide) (by decide))
theorem st_le (ha : SE X aw a m) (hb : SE X aw b n) : ST X aw (.Compare a [.LtE] [b] pos) (eT (eOp fLe m n)) := st_op op_le ok_le ha hb (nobehind b (by decide) (by decide))
theorem st_gt (ha : SE X aw a m) (hb : SE X aw b n) : ST X aw (.Compare a [.Gt] [b] pos) (eT (eOp fGt m n)) := st_op op_gt ok_gt ha hb (nobehind b (by decide) (by decide))
theorem st_ge (ha : SE X aw a m) (hb : SE X aw b n) : ST X aw (.Compare a [.GtE] [b] pos) (eT (eOp fGe m n)) := st_op op_ge ok_ge ha hb (nobehind b (by decide) (by decide))
theorem st_isN (ha : SE X aw a m) (hb : SE X aw b n) : ST X aw (.Compare a [.Is] [b] pos) (eT (eOp fIsN m n)) := st_op op_isN ok_isN ha hb (nobehind b (by decide) (by decide))
theorem st_notN (ha : SE X aw a m) (hb : SE X aw b n) : ST X aw (.Compare a [.IsNot] [b] pos) (eT (eOp fNotN m n)) := st_op op_notN ok_notN ha hb (nobehind b (by decide) (by decide))
theorem st_isB (ha : SE X aw a m) (hb : SE X aw b n) : ST X aw (.Compare a [.Is] [b] pos) (eT (eOp fIsB m n)) := st_op op_isBl ok_isB ha hb (nobehind b (by decide) (by decide))
theorem st_notB (ha : SE X aw a m) (hb : SE X aw b n) : ST X aw (.Compare a [.IsNot] [b] pos) (eT (eOp fNotB m n)) := st_op op_notBl ok_notB ha hb (nobehind b (by decide) (by decide))
theorem st_eq {k : Nat} (hr : Room k X.A) (ha : SE X aw a m) (hb : SE X aw b n) : ST X aw (.Compare a [.Eq] [b] pos) (eT (eOp fEq m n)) := st_op (op_eqD (room64 hr)) ok_eq ha hb (nobehind b (by decide) (by decide))
theorem st_ne {k : Nat} (hr : Room k X.A) (ha : SE X aw a m) (hb : SE X aw b n) : ST X aw (.Compare a [.NotEq] [b] pos) (eT (eOp fNe m n)) := st_op (op_neD (room64 hr)) ok_ne ha hb (nobehind b (by decide) (by decide))
theorem se_in {k : Nat} (hr : Room k X.A) (ha : SE X aw a m) (hb : SE X aw b n) (hm : behindInMarks .In b = false := by with_unfolding_all rfl) : SE X aw (.Compare a [.In] [b] pos) (eOp fIn m n) := se_cmp (op_inD (room65 hr)) ok_in ha hb hm
theorem se_notIn {k : Nat} (hr : Room k X.A) (ha : SE X aw a m) (hb : SE X aw b n) (hm : behindInMarks .NotIn b = false := by with_unfolding_all rfl) : SE X aw (.Compare a [.NotIn] [b] pos) (eOp fNotIn m n) := se_cmp (op_notInD (room65 hr)) ok_notIn ha hb hm
theorem st_in {k : Nat} (hr : Room k X.A) (ha : SE X aw a m) (hb : SE X aw b n) (hm : behindInMarks .In b = false := by with_unfolding_all rfl) : ST X aw (.Compare a [.In] [b] pos) (eT (eOp fIn m n)) := st_op (op_inD (room65 hr)) ok_in ha hb hm
theorem st_notIn {k : Nat} (hr : Room k X.A) (ha : SE X aw a m) (hb : SE X aw b n) (hm : behindInMarks .NotIn b = false := by with_unfolding_all rfl) : ST X aw (.Compare a [.NotIn] [b] pos) (eT (eOp fNotIn m n)) := st_op (op_notInD (room65 hr)) ok_notIn ha hb hm
theorem and_reads : ∀ σ H R, tT X.K aw (mAnd t u) σ H R → tAnd (tT X.K aw t) (tT X.K aw u) σ H R := fun σ H R => by
  rintro ⟨G, B, ρ, Q, o, hm, k⟩
  refine ⟨G, B, ρ, _, o, hm, fun H1 bb e1 w1 q1 => ?_⟩
  cases bb with
  | true => exact ⟨G, B, ρ, Q, o.grow e1 w1, q1, fun H' b e w q => k H' b (e1.trans e) w q⟩
  | false => exact k H1 false e1 w1 q1
theorem or_reads : ∀ σ H R, tT X.K aw (mOr t u) σ H R → tOr (tT X.K aw t) (tT X.K aw u) σ H R := fun σ H R => by
  rintro ⟨G, B, ρ, Q, o, hm, k⟩
  refine ⟨G, B, ρ, _, o, hm, fun H1 bb e1 w1 q1 => ?_⟩
  cases bb with
  | false => exact ⟨G, B, ρ, Q, o.grow e1 w1, q1, fun H' b e w q => k H' b (e1.trans e) w q⟩
  | true => exact k H1 true e1 w1 q1
/-- a test made of and, or -/
abbrev SW (X : Cx) (aw : Option Addr) (e : Expr) (m : En → M Bool) : Prop := PW X e (tT X.K aw m)
theorem sw_and1 (ha : ST X aw a t) : SW X aw (.BoolOp .And [a] pos) t := pw_and1 ha
theorem sw_or1 (ha : ST X aw a t) : SW X aw (.BoolOp .Or [a] pos) t := pw_or1 ha
theorem sw_and (ha : ST X aw a t) (hb : SW X aw (.BoolOp .And (b :: rest) pos) u) : SW X aw (.BoolOp .And (a :: b :: rest) pos) (mAnd t u) := pw_to (pw_and ha hb) and_reads
theorem sw_or (ha : ST X aw a t) (hb : SW X aw (.BoolOp .Or (b :: rest) pos) u) : SW X aw (.BoolOp .Or (a :: b :: rest) pos) (mOr t u) := pw_to (pw_or ha hb) or_reads
theorem st_w (h : SW X aw a t) : ST X aw a t := h.pt
theorem st_not (h : ST X aw a t) : ST X aw (.UnaryOp .Not a pos) (mNot t) := pt_to (pt_not h) fun σ H R => by
  rintro ⟨G, B, ρ, Q, o, hm, k⟩
  exact ⟨G, B, ρ, _, o, hm, fun H1 bb e1 w1 q1 => k H1 (!bb) e1 w1 q1⟩
theorem se_one {op} (h : SE X aw a m) : SE X aw (.BoolOp op [a] pos) m := pe_one h
theorem se_and (ha : SE X aw a m) (hb : SE X aw (.BoolOp .And (b :: rest) pos) n) : SE X aw (.BoolOp .And (a :: b :: rest) pos) (eAnd m n) := pe_to (pe_and ha hb) fun σ H R => by
  rintro ⟨G, B, ρ, Q, o, hm, k⟩
  refine ⟨G, B, ρ, _, o, hm, fun v H1 d e1 w1 r1 q1 => ?_⟩
  cases d with
  | bool bb =>
    cases r1
    refine ⟨bb, rfl, ?_⟩
    cases bb with
    | true => exact ⟨G, B, ρ, Q, o.grow e1 w1, q1, fun v H' d e w r q => k v H' d (e1.trans e) w r q⟩
    | false => exact k _ H1 _ e1 w1 (.bl _) q1
  | _ => cases q1
theorem se_or (ha : SE X aw a m) (hb : SE X aw (.BoolOp .Or (b :: rest) pos) n) : SE X aw (.BoolOp .Or (a :: b :: rest) pos) (eOr m n) := pe_to (pe_or ha hb) fun σ H R => by
  rintro ⟨G, B, ρ, Q, o, hm, k⟩
  refine ⟨G, B, ρ, _, o, hm, fun v H1 d e1 w1 r1 q1 => ?_⟩
  cases d with
  | bool bb =>
    cases r1
    refine ⟨bb, rfl, ?_⟩
    cases bb with
    | false => exact ⟨G, B, ρ, Q, o.grow e1 w1, q1, fun v H' d e w r q => k v H' d (e1.trans e) w r q⟩
    | true => exact k _ H1 _ e1 w1 (.bl _) q1
  | _ => cases q1
theorem se_not (ha : SE X aw a m) : SE X aw (.UnaryOp .Not a pos) (eNot m) := pe_to (pe_not ha) fun σ H R => by
  rintro ⟨G, B, ρ, Q, o, hm, k⟩
  refine ⟨G, B, ρ, _, o, hm, fun v H1 d e1 w1 r1 q1 => ?_⟩
  cases d with
  | bool bb => cases r1; exact ⟨bb, rfl, k _ H1 _ e1 w1 (.bl _) q1⟩
  | _ => cases q1
theorem se_if (hc : ST X aw c t) (ha : SE X aw a m) (hb : SE X aw b n) : SE X aw (.IfExp c a b pos) (eIf t m n) := pe_to (pe_ifExp hc ha hb) fun σ H R => by
  rintro ⟨G, B, ρ, Q, o, hm, k⟩
  refine ⟨G, B, ρ, _, o, hm, fun H1 bb e1 w1 q1 => ?_⟩
  cases bb with
  | true => exact ⟨G, B, ρ, Q, o.grow e1 w1, q1, fun v H' d e w r q => k v H' d (e1.trans e) w r q⟩
  | false => exact ⟨G, B, ρ, Q, o.grow e1 w1, q1, fun v H' d e w r q => k v H' d (e1.trans e) w r q⟩
end

/-! ### lists of arguments, displays, parts -/
def aNil : En → M (List D) := fun _ Q => Q []
def aCons (m : En → M D) (t : En → M (List D)) : En → M (List D) := fun ρ Q => m ρ fun d => t ρ fun ds => Q (d :: ds)
def eTup (t : En → M (List D)) : En → M D := fun ρ Q => t ρ fun ds => ds.length ≤ 100000 ∧ Q (.tuple ds)
def eLst (t : En → M (List D)) : En → M D := fun ρ Q => t ρ fun ds => ds.length ≤ 100000 ∧ Q (.list ds)
def eUn (f : D → M D) (m : En → M D) : En → M D := fun ρ Q => m ρ fun d => f d Q
def fNeg : D → M D := fun d Q => match d with
  | .int i => Q (.int (-i))
  | _ => False
section
variable {X : Cx} {aw : Option Addr} {a b c : Expr} {m n l : En → M D} {t u : En → M (List D)} {pos : Pos} {es : List Expr}
theorem sa_nil : SA X aw [] aNil := pa_to pa_nil fun σ H R => by
  rintro ⟨G, B, ρ, Q, o, hm, k⟩
  exact k [] H [] (.refl _ _) o.wld .nil hm
theorem sa_cons (ha : SE X aw a m) (hr : SA X aw es t) (hs : starEach (a :: es) X.env = (false, eval a X.env) :: starEach es X.env := by rfl) : SA X aw (a :: es) (aCons m t) := pa_to (pa_cons ha hr hs) fun σ H R => by
  rintro ⟨G, B, ρ, Q, o, hm, k⟩
  refine ⟨G, B, ρ, _, o, hm, fun v H1 d e1 w1 r1 q1 => ⟨G, B, ρ, _, o.grow e1 w1, q1, fun vs H2 ds e2 w2 r2 q2 => ?_⟩⟩
  exact k (v :: vs) H2 (d :: ds) (e1.trans e2) w2 (.cons (r1.ext w1.ne (cut_ext e2)) r2) q2
theorem se_tup {x1} (h : SA X aw es t) : SE X aw (.Tuple es x1 pos) (eTup t) := pe_to (pe_tup h) fun σ H R => by
  rintro ⟨G, B, ρ, Q, o, hm, k⟩
  refine ⟨G, B, ρ, _, o, hm, fun vs H1 ds e1 w1 r1 q1 => ⟨by rw [r1.length]; exact le_line q1.1, fun p hp => ?_⟩⟩
  have o1 := o.grow e1 w1
  exact k _ _ _ (e1.trans (.new hp)) (w1.fresh hp) (.tup (.inl (.inl (new_cut hp o1.own))) (rpA_new w1 hp r1)) q1.2
theorem se_lst (h : SA X aw es t) : SE X aw (.List es pos) (eLst t) := pe_to (pe_lst h) fun σ H R => by
  rintro ⟨G, B, ρ, Q, o, hm, k⟩
  refine ⟨G, B, ρ, _, o, hm, fun vs H1 ds e1 w1 r1 q1 => ⟨by rw [r1.length]; exact le_line q1.1, fun p hp => ?_⟩⟩
  have o1 := o.grow e1 w1
  exact k _ _ _ (e1.trans (.new hp)) (w1.fresh hp) (.lst (new_cut hp o1.own) (rpA_new w1 hp r1)) q1.2
/-- a one-place rule serves a plain one -/
def UnOk (K : PySem.W.Frag) (aw : Option Addr) (r : V → Hp → VK → Prop) (f : D → M D) : Prop := ∀ (H : Hp) (B : List Addr) (x : V) (d : D) (Q : D → Prop) (R : VK), World aw (cut H B) → (∀ p ∈ B, ∃ xs, H p = some (.lst xs)) → Rp K aw (cut H B) x d → f d Q →
  (∀ v H' z, Ext aw H H' → World aw (cut H' B) → Rp K aw (cut H' B) v z → Q z → R v H') → r x H R
theorem un_reads {K : PySem.W.Frag} {r : V → Hp → VK → Prop} {f : D → M D} (h : UnOk K aw r f) {σ : L2.St} {H : Hp} {R : VK} : tM K aw (eUn f m) σ H R → tUn r (tM K aw m) σ H R := by
  rintro ⟨G, B, ρ, Q, o, hm, k⟩
  refine ⟨G, B, ρ, _, o, hm, fun v H1 d e1 w1 r1 q1 => ?_⟩
  exact h H1 B v d Q R w1 (o.grow e1 w1).own r1 q1 fun v H' z e w r q => k v H' z (e1.trans e) w r q
theorem ok_neg {K : PySem.W.Frag} : UnOk K aw (rU fun i => .int (-i)) fNeg := by
  intro H B x d Q R w _ rx q k
  cases d with
  | int i => cases rx; exact ⟨i, rfl, k _ H _ (.refl _ _) w (.int _) q⟩
  | _ => cases q
theorem se_neg (ha : SE X aw a m) : SE X aw (.UnaryOp .USub a pos) (eUn fNeg m) := pe_to (pe_un un_neg ha) fun _ _ _ h => un_reads ok_neg h
theorem se_ix (ha : SE X aw a m) (hb : SE X aw b n) (hs : PlainIx b := by exact fun _ _ => rfl) : SE X aw (.Subscript a b pos) (eOp fIx m n) := pe_to (pe_ix ix_seq ha hb hs) (op_reads ok_ix)
end

/-! ### slices -/
abbrev En.O := En → M (Option Int)
def oNone : En → M (Option Int) := fun _ Q => Q none
def oSome (m : En → M D) : En → M (Option Int) := fun ρ Q => m ρ fun d => match d with
  | .int i => Q (some i)
  | _ => False
def cutD {α : Type} (xs : List α) (lo hi : Option Int) : List α := (xs.drop (HT.sIx xs.length 0 lo)).take (HT.sIx xs.length xs.length hi - HT.sIx xs.length 0 lo)
def fSl (d : D) (lo hi : Option Int) : M D := fun Q => match d with
  | .list ds => Q (.list (cutD ds lo hi))
  | .tuple ds => Q (.tuple (cutD ds lo hi))
  | .str z => z.length ≤ 100000 ∧ Q (.str (cutS z lo hi))
  | _ => False
def eSl (m : En → M D) (lo hi : En → M (Option Int)) : En → M D := fun ρ Q => m ρ fun d => lo ρ fun l => hi ρ fun h => fSl d l h Q
def tO (K : PySem.W.Frag) (aw : Option Addr) (m : En → M (Option Int)) : TO := fun σ H R => ∃ G B ρ Q, Ok K aw G B σ ρ H ∧ m ρ Q ∧ ∀ H' b, Ext aw H H' → World aw (cut H' B) → Q b → R b H'
theorem po_to {X : Cx} {e : Option Expr} {t t' : TO} (h : PO X e t) (i : ∀ σ H R, t' σ H R → t σ H R) : PO X e t' := ⟨fun pins s σ H Q I q => h.run pins s σ H Q I (i σ H Q q)⟩
section
variable {X : Cx} {aw : Option Addr} {a b c : Expr} {m n l : En → M D} {pos p2 : Pos} {lo hi : Option Expr} {ml mh : En → M (Option Int)}
theorem so_none : PO X none (tO X.K aw oNone) := po_to po_none fun σ H R => by
  rintro ⟨G, B, ρ, Q, o, hm, k⟩
  exact k H none (.refl _ _) o.wld hm
theorem so_some (h : SE X aw a m) : PO X (some a) (tO X.K aw (oSome m)) := po_to (po_some h) fun σ H R => by
  rintro ⟨G, B, ρ, Q, o, hm, k⟩
  refine ⟨G, B, ρ, _, o, hm, fun v H1 d e1 w1 r1 q1 => ?_⟩
  cases d with
  | int i => cases r1; exact ⟨i, rfl, k H1 _ e1 w1 q1⟩
  | _ => cases q1
theorem cutV_eq (xs : List V) (lo hi : Option Int) : cutV xs lo hi = cutD xs lo hi := rfl
theorem RpA.cut {K : PySem.W.Frag} {H : Hp} {xs : List V} {ds : List D} (r : RpA K aw H xs ds) (lo hi : Option Int) : RpA K aw H (cutD xs lo hi) (cutD ds lo hi) := by
  unfold cutD
  rw [r.length]
  exact (r.drop _).take _
theorem cut_all {α : Type} {xs : List α} {lo hi : Option Int} (h : HT.sIx xs.length 0 lo = 0 ∧ HT.sIx xs.length xs.length hi = xs.length) : cutD xs lo hi = xs := by
  unfold cutD
  rw [h.1, h.2, List.drop_zero, Nat.sub_zero, List.take_length]
theorem se_sl (he : SE X aw a m) (hl : PO X lo (tO X.K aw ml)) (hu : PO X hi (tO X.K aw mh)) : SE X aw (.Subscript a (.Slice lo hi none p2) pos) (eSl m ml mh) :=
  pe_to (pe_slice (sl_list.or (sl_tupA.or sl_str)) he hl hu) fun σ H R => by
    rintro ⟨G, B, ρ, Q, o, hm, k⟩
    refine ⟨G, B, ρ, _, o, hm, fun v H1 d e1 w1 r1 q1 => ⟨G, B, ρ, _, o.grow e1 w1, q1, fun H2 l e2 w2 q2 => ⟨G, B, ρ, _, (o.grow e1 w1).grow e2 w2, q2, fun H3 h e3 w3 q3 => ?_⟩⟩⟩
    have o3 := ((o.grow e1 w1).grow e2 w2).grow e3 w3
    have r3 : Rp X.K aw (Pl.cut H3 B) v d := (r1.ext w1.ne (cut_ext e2)).ext w2.ne (cut_ext e3)
    have e13 := e1.trans (e2.trans e3)
    cases d with
    | list ds =>
      cases r3 with
      | lst hh rr =>
      refine .inl ⟨_, _, rfl, .inl (.inl (cut_some hh).1), fun p hp => ?_⟩
      exact k _ _ _ (e13.trans (.new hp)) (w3.fresh hp) (.lst (new_cut hp o3.own) (rpA_new w3 hp (rr.cut l h))) q3
    | tuple ds =>
      cases r3 with
      | tup hh rr =>
      refine .inr (.inl ⟨_, _, rfl, sqT_less hh, fun hw => ?_, fun hw p hp => ?_⟩)
      · refine k _ _ _ e13 w3 (.tup hh ?_) q3
        have := rr.cut l h
        rw [cut_all hw] at this
        exact this
      · exact k _ _ _ (e13.trans (.new hp)) (w3.fresh hp) (.tup (.inl (.inl (new_cut hp o3.own))) (rpA_new w3 hp (rr.cut l h))) q3
    | str z =>
      cases r3
      exact .inr (.inr ⟨z, rfl, le_line q3.1, k _ _ _ e13 w3 (.str _) q3.2⟩)
    | _ => cases q3
end


/-! ### calls -/
def eCall (f : List D → M D) (t : En → M (List D)) : En → M D := fun ρ Q => t ρ fun ds => f ds Q
def ArgOk (K : PySem.W.Frag) (aw : Option Addr) (r : List V → Hp → VK → Prop) (f : List D → M D) : Prop := ∀ (H : Hp) (B : List Addr) (xs : List V) (ds : List D) (Q : D → Prop) (R : VK), World aw (cut H B) → (∀ p ∈ B, ∃ xs, H p = some (.lst xs)) → RpA K aw (cut H B) xs ds → f ds Q →
  (∀ v H' z, Ext aw H H' → World aw (cut H' B) → Rp K aw (cut H' B) v z → Q z → R v H') → r xs H R
theorem cr_or {X : Cx} {f : Value} {r r' : List V → Hp → VK → Prop} (h : CallR X f r) (h' : CallR X f r') : CallR X f (fun xs H Q => r xs H Q ∨ r' xs H Q) := by
  intro pins s σ H xs us Q I rv q
  rcases q with q | q
  · exact h pins s σ H xs us Q I rv q
  · exact h' pins s σ H xs us Q I rv q
theorem arg_reads {K : PySem.W.Frag} {aw : Option Addr} {r : List V → Hp → VK → Prop} {f : List D → M D} {t : En → M (List D)} (h : ArgOk K aw r f) {σ : L2.St} {H : Hp} {R : VK} : tM K aw (eCall f t) σ H R → tCB r (tA K aw t) σ H R := by
  rintro ⟨G, B, ρ, Q, o, hm, k⟩
  refine ⟨G, B, ρ, _, o, hm, fun vs H1 ds e1 w1 r1 q1 => ?_⟩
  exact h H1 B vs ds Q R w1 (o.grow e1 w1).own r1 q1 fun v H' z e w r q => k v H' z (e1.trans e) w r q
section
variable {X : Cx} {aw : Option Addr} {x : Str} {p pos : Pos} {e : Expr} {es : List Expr} {t : En → M (List D)} {id T : String} {r : List V → Hp → VK → Prop} {f : List D → M D}
theorem se_callB (hc : CallR X (.builtin id) r) (hok : ArgOk X.K aw r f) (hv : bootBuiltins x = some (.builtin id)) (hn : x ≠ "__name__") (hdb : (x == ("__debug__" : Str)) = false) (hg : Gl X x) (hm : X.mg x = none) (ha : SA X aw (e :: es) t)
    (he : starEach (e :: es) X.env = (false, eval e X.env) :: starEach es X.env := by rfl) (hpl : (backTo pos (starEach es X.env)).any (·.1) = false := by rfl) : SE X aw (.Call (.Name x p) (e :: es) [] pos) (eCall f t) :=
  pe_to (pe_callB hc hg hm hv ha hn hdb he hpl) fun _ _ _ h => arg_reads hok h
theorem se_callTy (hc : CallR X (.type T) r) (hok : ArgOk X.K aw r f) (hv : bootBuiltins x = some (.type T)) (hn : x ≠ "__name__") (hdb : (x == ("__debug__" : Str)) = false) (hg : Gl X x) (hm : X.mg x = none) (ha : SA X aw (e :: es) t)
    (he : starEach (e :: es) X.env = (false, eval e X.env) :: starEach es X.env := by rfl) (hpl : (backTo pos (starEach es X.env)).any (·.1) = false := by rfl) : SE X aw (.Call (.Name x p) (e :: es) [] pos) (eCall f t) :=
  pe_to (pe_callTy hc hg hm hv ha hn hdb he hpl) fun _ _ _ h => arg_reads hok h
end
def fLen : List D → M D := fun ds Q => match ds with
  | [.list xs] => Q (.int xs.length)
  | [.tuple xs] => Q (.int xs.length)
  | [.str z] => z.length ≤ 100000 ∧ Q (.int z.length)
  | [.dict [(.none, .list xs)]] => Q (.int xs.length)
  | _ => False
def fAbs : List D → M D := fun ds Q => match ds with
  | [.int i] => Q (.int (if i < 0 then -i else i))
  | _ => False
def fInt : List D → M D := fun ds Q => match ds with
  | [.int i] => Q (.int i)
  | [.bool b] => Q (.int (if b then 1 else 0))
  | _ => False
def fStr : List D → M D := fun ds Q => match ds with
  | [.int i] => i.natAbs.log2 < 1920 ∧ Q (.str (toString i : String))
  | _ => False
def fTuple : List D → M D := fun ds Q => match ds with
  | [.list xs] => Q (.tuple xs)
  | [.tuple xs] => Q (.tuple xs)
  | _ => False
def fList : List D → M D := fun ds Q => match ds with
  | [.list xs] => Q (.list xs)
  | [.tuple xs] => Q (.list xs)
  | _ => False
def boolsOf : List D → Option (List Bool)
  | [] => some []
  | .bool b :: ds => (boolsOf ds).map (b :: ·)
  | _ => none
def fAll : List D → M D := fun ds Q => match ds with
  | [.list xs] => match boolsOf xs with
    | some bs => Q (.bool (bs.all id))
    | none => False
  | _ => False
/-- the name of a datum's type -/
def tyD : D → Option String
  | .none => some "NoneType"
  | .bool _ => some "bool"
  | .int _ => some "int"
  | .str _ => some "str"
  | .list _ => some "list"
  | .tuple _ => some "tuple"
  | .dict _ => none
def isD (a T : String) : Bool := a == T || (a == "bool" && T == "int")
def fIsi (T : String) : D → M D := fun d Q => match tyD d with
  | some a => Q (.bool (isD a T))
  | none => False
section
variable {X : Cx} {K : PySem.W.Frag} {aw : Option Addr}
theorem ok_len : ArgOk K aw (fun xs H Q => (∃ p ys, xs = [.ref p] ∧ (SqL K H p ys ∨ SqT K H p ys) ∧ Q (.int ys.length) H) ∨ ∃ z, xs = [.str z] ∧ z.length ≤ sizeLine ∧ Q (.int z.length) H) fLen := by
  intro H B xs ds Q R w hB r q k
  unfold fLen at q
  split at q
  · cases r with
    | cons r0 rr =>
    cases rr
    cases r0 with
    | lst h1 r1 =>
    exact .inl ⟨_, _, rfl, .inl (.inl (.inl (cut_some h1).1)), by rw [r1.length]; exact k _ H _ (.refl _ _) w (.int _) q⟩
  · cases r with
    | cons r0 rr =>
    cases rr
    cases r0 with
    | tup h1 r1 =>
    exact .inl ⟨_, _, rfl, .inr (sqT_less h1), by rw [r1.length]; exact k _ H _ (.refl _ _) w (.int _) q⟩
  · cases r with
    | cons r0 rr =>
    cases rr
    cases r0
    exact .inr ⟨_, rfl, le_line q.1, k _ H _ (.refl _ _) w (.int _) q.2⟩
  · cases r with
    | cons r0 rr =>
    cases rr
    cases r0 with
    | scr h1 =>
    rw [List.length_map] at q
    exact .inl ⟨_, _, rfl, .inl h1.less.sq, by rw [List.length_map]; exact k _ H _ (.refl _ _) w (.int _) q⟩
  · cases q
theorem ok_abs : ArgOk K aw (fun xs H Q => ∃ i, xs = [.int i] ∧ Q (.int (if i < 0 then -i else i)) H) fAbs := by
  intro H B xs ds Q R w hB r q k
  unfold fAbs at q
  split at q
  · cases r with
    | cons r0 rr =>
    cases rr
    cases r0
    exact ⟨_, rfl, k _ H _ (.refl _ _) w (.int _) q⟩
  · cases q
theorem ok_int : ArgOk K aw (fun xs H Q => (∃ i, xs = [.int i] ∧ Q (.int i) H) ∨ ∃ k, xs = [.bl k] ∧ Q (.int (if k then 1 else 0)) H) fInt := by
  intro H B xs ds Q R w hB r q k
  unfold fInt at q
  split at q
  · cases r with
    | cons r0 rr =>
    cases rr
    cases r0
    exact .inl ⟨_, rfl, k _ H _ (.refl _ _) w (.int _) q⟩
  · cases r with
    | cons r0 rr =>
    cases rr
    cases r0
    exact .inr ⟨_, rfl, k _ H _ (.refl _ _) w (.int _) q⟩
  · cases q
theorem ok_str : ArgOk K aw (fun xs H Q => ∃ i, xs = [.int i] ∧ i.natAbs.log2 < 1920 ∧ Q (.str (toString i)) H) fStr := by
  intro H B xs ds Q R w hB r q k
  unfold fStr at q
  split at q
  · cases r with
    | cons r0 rr =>
    cases rr
    cases r0
    exact ⟨_, rfl, q.1, k _ H _ (.refl _ _) w (.str _) q.2⟩
  · cases q
theorem ok_tuple : ArgOk K aw (fun xs H Q => ∃ p ys, xs = [.ref p] ∧ ((SqL K H p ys ∧ ∀ l, H l = none → Q (.ref l) (upd H l (.tup ys))) ∨ (SqT K H p ys ∧ Q (.ref p) H))) fTuple := by
  intro H B xs ds Q R w hB r q k
  unfold fTuple at q
  split at q
  · cases r with
    | cons r0 rr =>
    cases rr
    cases r0 with
    | lst h1 r1 =>
    exact ⟨_, _, rfl, .inl ⟨.inl (.inl (cut_some h1).1), fun l hl => k _ _ _ (.new hl) (w.fresh hl) (.tup (.inl (.inl (new_cut hl hB))) (rpA_new w hl r1)) q⟩⟩
  · cases r with
    | cons r0 rr =>
    cases rr
    cases r0 with
    | tup h1 r1 =>
    exact ⟨_, _, rfl, .inr ⟨sqT_less h1, k _ H _ (.refl _ _) w (.tup h1 r1) q⟩⟩
  · cases q
theorem ok_list : ArgOk K aw (fun xs H Q => ∃ p ys, xs = [.ref p] ∧ (SqL K H p ys ∨ SqT K H p ys) ∧ ∀ l, H l = none → Q (.ref l) (upd H l (.lst ys))) fList := by
  intro H B xs ds Q R w hB r q k
  unfold fList at q
  split at q
  · cases r with
    | cons r0 rr =>
    cases rr
    cases r0 with
    | lst h1 r1 =>
    exact ⟨_, _, rfl, .inl (.inl (.inl (cut_some h1).1)), fun l hl => k _ _ _ (.new hl) (w.fresh hl) (.lst (new_cut hl hB) (rpA_new w hl r1)) q⟩
  · cases r with
    | cons r0 rr =>
    cases rr
    cases r0 with
    | tup h1 r1 =>
    exact ⟨_, _, rfl, .inr (sqT_less h1), fun l hl => k _ _ _ (.new hl) (w.fresh hl) (.lst (new_cut hl hB) (rpA_new w hl r1)) q⟩
  · cases q
theorem bools_rp {H : Hp} : ∀ {ds : List D} {bs : List Bool} {xs : List V}, boolsOf ds = some bs → RpA K aw H xs ds → xs = bs.map V.bl
  | [], _, _, e, r => by cases r; cases e; rfl
  | .bool b :: ds, bs, _, e, r => by
    unfold boolsOf at e
    cases q : boolsOf ds with
    | none => rw [q] at e; cases e
    | some cs =>
      rw [q] at e
      cases e
      cases r with
      | cons r0 rr =>
      cases r0
      rw [bools_rp q rr]
      rfl
  | .none :: _, _, _, e, _ => by cases e
  | .int _ :: _, _, _, e, _ => by cases e
  | .str _ :: _, _, _, e, _ => by cases e
  | .list _ :: _, _, _, e, _ => by cases e
  | .tuple _ :: _, _, _, e, _ => by cases e
  | .dict _ :: _, _, _, e, _ => by cases e
theorem ok_all : ArgOk K aw (rAll K) fAll := by
  intro H B xs ds Q R w hB r q k
  unfold fAll at q
  split at q
  · split at q
    · rename_i bs hb
      cases r with
      | cons r0 rr =>
      cases rr
      cases r0 with
      | lst h1 r1 =>
      have e := bools_rp hb r1
      subst e
      exact ⟨_, bs, rfl, .inl (.inl (cut_some h1).1), k _ H _ (.refl _ _) w (.bl _) q⟩
    · cases q
  · cases q
variable {p pos : Pos} {e : Expr} {es : List Expr} {t : En → M (List D)} {m : En → M D}
theorem se_len (hg : Gl X "len") (hm : X.mg "len" = none) (ha : SA X aw (e :: es) t) (he : starEach (e :: es) X.env = (false, eval e X.env) :: starEach es X.env := by rfl) (hpl : (backTo pos (starEach es X.env)).any (·.1) = false := by rfl) : SE X aw (.Call (.Name "len" p) (e :: es) [] pos) (eCall fLen t) :=
  se_callB (cr_or call_len_seq call_len_str) ok_len PySem.boot_len (by decide) (by decide) hg hm ha he hpl
theorem se_abs (hg : Gl X "abs") (hm : X.mg "abs" = none) (ha : SA X aw (e :: es) t) (he : starEach (e :: es) X.env = (false, eval e X.env) :: starEach es X.env := by rfl) (hpl : (backTo pos (starEach es X.env)).any (·.1) = false := by rfl) : SE X aw (.Call (.Name "abs" p) (e :: es) [] pos) (eCall fAbs t) :=
  se_callB call_abs ok_abs (by decide +kernel) (by decide) (by decide) hg hm ha he hpl
theorem se_intc (hg : Gl X "int") (hm : X.mg "int" = none) (ha : SA X aw (e :: es) t) (he : starEach (e :: es) X.env = (false, eval e X.env) :: starEach es X.env := by rfl) (hpl : (backTo pos (starEach es X.env)).any (·.1) = false := by rfl) : SE X aw (.Call (.Name "int" p) (e :: es) [] pos) (eCall fInt t) :=
  se_callTy call_int1 ok_int (by decide +kernel) (by decide) (by decide) hg hm ha he hpl
theorem se_strc (hg : Gl X "str") (hm : X.mg "str" = none) (ha : SA X aw (e :: es) t) (he : starEach (e :: es) X.env = (false, eval e X.env) :: starEach es X.env := by rfl) (hpl : (backTo pos (starEach es X.env)).any (·.1) = false := by rfl) : SE X aw (.Call (.Name "str" p) (e :: es) [] pos) (eCall fStr t) :=
  se_callTy call_str_int ok_str (by decide +kernel) (by decide) (by decide) hg hm ha he hpl
theorem se_tuplec (hg : Gl X "tuple") (hm : X.mg "tuple" = none) (ha : SA X aw (e :: es) t) (he : starEach (e :: es) X.env = (false, eval e X.env) :: starEach es X.env := by rfl) (hpl : (backTo pos (starEach es X.env)).any (·.1) = false := by rfl) : SE X aw (.Call (.Name "tuple" p) (e :: es) [] pos) (eCall fTuple t) :=
  se_callTy call_tuple_of ok_tuple (by decide +kernel) (by decide) (by decide) hg hm ha he hpl
theorem se_listc (hg : Gl X "list") (hm : X.mg "list" = none) (ha : SA X aw (e :: es) t) (he : starEach (e :: es) X.env = (false, eval e X.env) :: starEach es X.env := by rfl) (hpl : (backTo pos (starEach es X.env)).any (·.1) = false := by rfl) : SE X aw (.Call (.Name "list" p) (e :: es) [] pos) (eCall fList t) :=
  se_callTy call_list_of ok_list (by decide +kernel) (by decide) (by decide) hg hm ha he hpl
theorem se_allc (hc : X.calm = true) (hg : Gl X "all") (hm : X.mg "all" = none) (ha : SA X aw (e :: es) t) (he : starEach (e :: es) X.env = (false, eval e X.env) :: starEach es X.env := by rfl) (hpl : (backTo pos (starEach es X.env)).any (·.1) = false := by rfl) : SE X aw (.Call (.Name "all" p) (e :: es) [] pos) (eCall fAll t) :=
  se_callB (cr_all hc) ok_all (by decide +kernel) (by decide) (by decide) hg hm ha he hpl
/-- isinstance(e, T) -/
theorem kit_isD (a T : String) (ha : a ∈ ["NoneType", "bool", "int", "str", "list", "tuple"]) (hT : T ∈ ["bool", "int", "str", "list", "tuple"]) : PySem.W.kitOne K (.type a) (.type T) = some (isD a T) := by
  simp only [List.mem_cons, List.not_mem_nil, or_false] at ha hT
  rcases ha with rfl | rfl | rfl | rfl | rfl | rfl <;> rcases hT with rfl | rfl | rfl | rfl | rfl <;> rfl
theorem tyX_of {H : Hp} {B : List Addr} {v : V} {d : D} {a : String} (r : Rp K aw (cut H B) v d) (e : tyD d = some a) : TyX K H v (.type a) ∧ a ∈ ["NoneType", "bool", "int", "str", "list", "tuple"] := by
  cases r with
  | non => cases e; exact ⟨.base .non, by decide⟩
  | bl b => cases e; exact ⟨.base (.bl b), by decide⟩
  | int b => cases e; exact ⟨.base (.int b), by decide⟩
  | str b => cases e; exact ⟨.base (.str b), by decide⟩
  | lst h _ => cases e; exact ⟨.base (.lst (cut_some h).1), by decide⟩
  | tup h _ =>
    cases e
    refine ⟨?_, by decide⟩
    rcases sqT_less h with (h | ⟨o, h⟩) | ⟨o, its, n, h1, h2, _⟩
    · exact .base (.tup h)
    · exact .fTuple h
    · exact .kTuple h1 h2
  | wld _ _ => cases e
  | scr _ => cases e
theorem se_isi {T : Str} {TT : String} {p2 : Pos} (hT : bootBuiltins T = some (.type TT)) (hTT : TT ∈ ["bool", "int", "str", "list", "tuple"]) (hgT : Gl X T) (hmT : X.mg T = none) (hg : Gl X "isinstance") (hm : X.mg "isinstance" = none) (ha : SE X aw e m) (hnT : T ≠ "__name__" := by decide) (hdT : (T == ("__debug__" : Str)) = false := by decide)
    (he : starEach [e, .Name T p2] X.env = (false, eval e X.env) :: starEach [.Name T p2] X.env := by rfl) (hpl : (backTo pos (starEach [.Name T p2] X.env)).any (·.1) = false := by rfl) : SE X aw (.Call (.Name "isinstance" p) [e, .Name T p2] [] pos) (eUn (fIsi TT) m) := by
  have hn : PE X (.Name T p2) (tC (.ty TT)) := pe_bltn hgT hmT hT rfl hnT hdT
  have hA : PA X [e, .Name T p2] (tCons (tM X.K aw m) (tCons (tC (.ty TT)) tNil)) := pa_cons ha (pa_cons hn pa_nil (by rfl)) he
  refine pe_to (pe_callB call_isi hg hm (by decide +kernel) hA (by decide) (by decide) he hpl) fun σ H R => ?_
  rintro ⟨G, B, ρ, Q, o, hm, k⟩
  refine ⟨G, B, ρ, _, o, hm, fun v H1 d e1 w1 r1 q1 => ?_⟩
  unfold fIsi at q1
  split at q1
  · rename_i a ea
    obtain ⟨ty, ma⟩ := tyX_of r1 ea
    exact ⟨v, .ty TT, _, _, isD a TT, rfl, .ty TT, ty, kit_isD a TT ma hTT, k _ H1 _ e1 w1 (.bl _) q1⟩
  · cases q1
end

/-! ### a def's promise -/
def spF (K : PySem.W.Frag) (n : Nat) (F : List D → M D) : Sp := fun vs H Q _ => ∃ aw B ds P, vs.length = n ∧ World aw (cut H B) ∧ (∀ p ∈ B, ∃ xs, H p = some (.lst xs)) ∧ RpA K aw (cut H B) vs ds ∧ F ds P ∧ ∀ v H' d, Ext aw H H' → World aw (cut H' B) → Rp K aw (cut H' B) v d → P d → Q v H'
structure Df (P : Program) (w : PySem.World) (K : PySem.W.Frag) (mg : Str → Option Value) (base : Heap) (x : Str) (n k : Nat) (F : List D → M D) : Prop where
  ex : ∃ f fd ps, ps.length = n ∧ mg x = some (.ref f) ∧ PySem.W.keepIn K (.ref f) = true ∧ Binds K fd ps [] ∧ FnOk P w K mg base CX0 k f fd ps (spF K n F)
theorem Df.mono {P : Program} {w : PySem.World} {K : PySem.W.Frag} {mg : Str → Option Value} {base : Heap} {x : Str} {n j k : Nat} {F : List D → M D} (h : Df P w K mg base x n j F) (l : j ≤ k) : Df P w K mg base x n k F := by
  obtain ⟨f, fd, ps, h0, h1, h2, h3, h4⟩ := h.ex
  exact ⟨f, fd, ps, h0, h1, h2, h3, h4.mono l⟩
/-- a call with so many arguments -/
def eCallN (n : Nat) (F : List D → M D) (t : En → M (List D)) : En → M D := fun ρ Q => t ρ fun ds => ds.length = n ∧ F ds Q
section
variable {X : Cx} {aw : Option Addr} {x : Str} {p pos : Pos} {e : Expr} {es : List Expr} {t : En → M (List D)} {F : List D → M D} {n k j : Nat}
theorem se_call (h : Df X.prog X.w X.K X.mg X.base x n j F) (hr : Room k X.A) (hjk : j ≤ k) (hg : Gl X x) (ha : SA X aw (e :: es) t)
    (hdb : (x == ("__debug__" : Str)) = false := by decide) (he : starEach (e :: es) X.env = (false, eval e X.env) :: starEach es X.env := by rfl) (hpl : (backTo pos (starEach es X.env)).any (·.1) = false := by rfl) : SE X aw (.Call (.Name x p) (e :: es) [] pos) (eCallN n F t) := by
  obtain ⟨f, fd, ps, h0, h1, h2, h3, h4⟩ := h.ex
  refine pe_to (pe_call h4 (hr.mono hjk) hg h1 h2 h3 .nil pass0 ha hdb he hpl) fun σ H R => ?_
  rintro ⟨G, B, ρ, Q, o, hm, q⟩
  refine ⟨G, B, ρ, _, o, hm, fun vs H1 ds e1 w1 r1 q1 => ?_⟩
  refine ⟨aw, B, ds, Q, by rw [List.append_nil, r1.length]; exact q1.1, w1, (o.grow e1 w1).own, by rw [List.append_nil]; exact r1, q1.2, fun v H' d e2 w2 r2 q2 => q v H' d (e1.trans e2) w2 r2 q2⟩
end


/-! ### targets -/
abbrev MG := D → En → (En → Prop) → Prop
abbrev MGs := List D → En → (En → Prop) → Prop
def mgName (i : Nat) : MG := fun d ρ Q => Q (ρ.set i (.va d))
def mgNil : MGs := fun ds ρ Q => ds = [] ∧ Q ρ
def mgCons (g : MG) (gs : MGs) : MGs := fun ds ρ Q => match ds with
  | d :: r => g d ρ fun ρ' => gs r ρ' Q
  | [] => False
def mgTup (n : Nat) (gs : MGs) : MG := fun d ρ Q => match d with
  | .tuple ds => ds.length = n ∧ gs ds ρ Q
  | _ => False
def mgLst (n : Nat) (gs : MGs) : MG := fun d ρ Q => match d with
  | .list ds => ds.length = n ∧ gs ds ρ Q
  | _ => False
/-- the slots but those at `is` are as they were -/
def Same (is : List Nat) (σ σ' : L2.St) : Prop := σ'.length = σ.length ∧ ∀ i, i ∉ is → σ'[i]? = σ[i]?
theorem Same.rfl {is : List Nat} {σ : L2.St} : Same is σ σ := ⟨Eq.refl _, fun _ _ => Eq.refl _⟩
theorem Same.wipe {is : List Nat} {σ σ' : L2.St} (h : Same is σ σ') : L2.wipe σ' is = L2.wipe σ is := by
  refine List.ext_getElem? fun i => ?_
  by_cases hi : i ∈ is
  · have e : ∀ τ : L2.St, (L2.wipe τ is)[i]? = if i < τ.length then some none else none := fun τ => by
      have := L2.wipe_length τ is
      by_cases hl : i < τ.length
      · rw [if_pos hl]
        cases q : (L2.wipe τ is)[i]? with
        | none => rw [List.getElem?_eq_none_iff] at q; omega
        | some s =>
          cases s with
          | none => exact Eq.refl _
          | some v => exact absurd hi (L2.wipe_some q).2
      · rw [if_neg hl, List.getElem?_eq_none (by omega)]
    rw [e, e, h.1]
  · rw [L2.wipe_out hi, L2.wipe_out hi, h.2 i hi]
def tG (K : PySem.W.Frag) (aw : Option Addr) (is : List Nat) (g : MG) : TG := fun v σ H R => ∃ G B ρ d Q, Ok K aw G B σ ρ H ∧ Rp K aw (cut H B) v d ∧ g d ρ Q ∧ ∀ σ' ρ', Ok K aw G B σ' ρ' H → Same is σ σ' → Q ρ' → R σ' H
def tGs (K : PySem.W.Frag) (aw : Option Addr) (is : List Nat) (g : MGs) : TGs := fun vs σ H R => ∃ G B ρ ds Q, Ok K aw G B σ ρ H ∧ RpA K aw (cut H B) vs ds ∧ g ds ρ Q ∧ ∀ σ' ρ', Ok K aw G B σ' ρ' H → Same is σ σ' → Q ρ' → R σ' H
abbrev SG (X : Cx) (aw : Option Addr) (is : List Nat) (e : Expr) (g : MG) : Prop := PG X e (tG X.K aw is g)
abbrev SGs (X : Cx) (aw : Option Addr) (is : List Nat) (es : List Expr) (g : MGs) : Prop := PGs X es (tGs X.K aw is g)
theorem pg_to {X : Cx} {e : Expr} {t t' : TG} (h : PG X e t) (i : ∀ v σ H R, t' v σ H R → t v σ H R) : PG X e t' := ⟨fun pins s σ H v u Q I r q => h.run pins s σ H v u Q I r (i v σ H Q q)⟩
theorem pgs_to {X : Cx} {e : List Expr} {t t' : TGs} (h : PGs X e t) (i : ∀ v σ H R, t' v σ H R → t v σ H R) : PGs X e t' := ⟨fun pins s σ H vs us Q I r q => h.run pins s σ H vs us Q I r (i vs σ H Q q)⟩
section
variable {X : Cx} {aw : Option Addr} {e : Expr} {es : List Expr} {g : MG} {gs : MGs} {pos : Pos} {is js : List Nat}
theorem sg_name {i : Nat} {x : Str} (h : PG X (.Name x pos) (gName i)) : SG X aw [i] (.Name x pos) (mgName i) := pg_to h fun v σ H R => by
  rintro ⟨G, B, ρ, d, Q, o, r, hg, k⟩
  refine k _ _ (o.set r i) ⟨by simp, fun j hj => ?_⟩ hg
  rw [List.getElem?_set_ne fun z => hj (by simp [z])]
theorem sgs_nil : SGs X aw [] [] mgNil := pgs_to pgs_nil fun v σ H R => by
  rintro ⟨G, B, ρ, ds, Q, o, r, ⟨rfl, hg⟩, k⟩
  cases r
  exact ⟨rfl, k σ ρ o .rfl hg⟩
theorem sgs_cons (h1 : SG X aw is e g) (h2 : SGs X aw js es gs) (hs : (assignEach (e :: es) X.env).map (·.2) = assign e X.env :: (assignEach es X.env).map (·.2) := by rfl) : SGs X aw (is ++ js) (e :: es) (mgCons g gs) := pgs_to (pgs_cons h1 h2 hs) fun v σ H R => by
  rintro ⟨G, B, ρ, ds, Q, o, r, hg, k⟩
  cases r with
  | nil => exact hg.elim
  | cons r0 rr =>
  refine ⟨_, _, rfl, G, B, ρ, _, _, o, r0, hg, fun σ' ρ' o' s' hg' => ⟨G, B, ρ', _, _, o', rr, hg', fun σ2 ρ2 o2 s2 q2 => k σ2 ρ2 o2 ⟨s2.1.trans s'.1, fun i hi => ?_⟩ q2⟩⟩
  rw [s2.2 i fun z => hi (List.mem_append_right _ z), s'.2 i fun z => hi (List.mem_append_left _ z)]
theorem sg_tup {k n : Nat} (hc : X.calm = true) (h : SGs X aw is es gs) (hn : (assignEach es X.env).length = n := by rfl) (hst : (assignEach es X.env).findIdx? (·.1) = none := by rfl) : SG X aw is (.Tuple es k pos) (mgTup n gs) := pg_to (pg_tup hc h hn hst) fun v σ H R => by
  rintro ⟨G, B, ρ, d, Q, o, r, hg, k⟩
  cases d with
  | tuple ds =>
    cases r with
    | tup h1 r1 => exact ⟨_, _, rfl, sqT_less h1, by rw [r1.length]; exact hg.1, G, B, ρ, ds, Q, o, r1, hg.2, k⟩
  | _ => exact hg.elim
theorem sg_lst {k n : Nat} (hc : X.calm = true) (h : SGs X aw is es gs) (hn : (assignEach es X.env).length = n := by rfl) (hst : (assignEach es X.env).findIdx? (·.1) = none := by rfl) : SG X aw is (.Tuple es k pos) (mgLst n gs) := pg_to (pg_unl hc h hn hst) fun v σ H R => by
  rintro ⟨G, B, ρ, d, Q, o, r, hg, k⟩
  cases d with
  | list ds =>
    cases r with
    | lst h1 r1 => exact ⟨_, _, rfl, .inl (.inl (cut_some h1).1), by rw [r1.length]; exact hg.1, G, B, ρ, ds, Q, o, r1, hg.2, k⟩
  | _ => exact hg.elim
end

/-! ### statements -/
structure Po where
  nx : En → Prop
  rt : D → Prop
  bk : En → Prop
  ct : En → Prop
abbrev MS := En → Po → Prop
def tS (K : PySem.W.Frag) (aw : Option Addr) (s : MS) : TS := fun Dn σ H => ∃ G B ρ P, Ok K aw G B σ ρ H ∧ s ρ P ∧
  (∀ σ' H' ρ' B', Ok K aw G B' σ' ρ' H' → Ext aw (cut H B) (cut H' B') → P.nx ρ' → Dn.nx σ' H') ∧
  (∀ v H' d, Ext aw G.H0 H' → World aw (cut H' G.Bc) → Rp K aw (cut H' G.Bc) v d → P.rt d → Dn.rt v H') ∧
  (∀ σ' H' ρ' B', Ok K aw G B' σ' ρ' H' → Ext aw (cut H B) (cut H' B') → P.bk ρ' → Dn.bk σ' H') ∧
  (∀ σ' H' ρ' B', Ok K aw G B' σ' ρ' H' → Ext aw (cut H B) (cut H' B') → P.ct ρ' → Dn.ct σ' H')
abbrev SS (X : Cx) (aw : Option Addr) (st : Stmt) (s : MS) : Prop := PS X st (tS X.K aw s)
abbrev SSs (X : Cx) (aw : Option Addr) (st : List Stmt) (s : MS) : Prop := PSs X st (tS X.K aw s)
def sNext : MS := fun ρ P => P.nx ρ
def sNever : MS := fun _ _ => False
def sBreak : MS := fun ρ P => P.bk ρ
def sCont : MS := fun ρ P => P.ct ρ
def sSeq (s t : MS) : MS := fun ρ P => s ρ { P with nx := fun ρ' => t ρ' P }
def sAsg (m : En → M D) (g : MG) : MS := fun ρ P => m ρ fun d => g d ρ P.nx
def sRet (m : En → M D) : MS := fun ρ P => m ρ P.rt
def sIf (c : En → M Bool) (s t : MS) : MS := fun ρ P => c ρ fun b => if b = true then s ρ P else t ρ P
def sDrop (m : En → M D) : MS := fun ρ P => m ρ fun _ => P.nx ρ
def sPar (i j : Nat) (t : En → M (List D)) : MS := fun ρ P => t ρ fun ds => match ds with
  | [a, b] => P.nx ((ρ.set i (.va a)).set j (.va b))
  | _ => False
def sPar3 (i j l : Nat) (t : En → M (List D)) : MS := fun ρ P => t ρ fun ds => match ds with
  | [a, b, c] => P.nx (((ρ.set i (.va a)).set j (.va b)).set l (.va c))
  | _ => False
/-- the own list in a slot is no more own: it may be told to others, and grows no more -/
def sFreeze (i : Nat) (s : MS) : MS := fun ρ P => match ρ[i]? with
  | some (.ow ds) => s (ρ.set i (.va (.list ds))) P
  | _ => False
section
variable {X : Cx} {aw : Option Addr} {st : Stmt} {rest sts sts2 : List Stmt} {s t : MS} {e c : Expr} {es : List Expr} {m : En → M D} {g : MG} {tt : En → M Bool} {ta : En → M (List D)} {pos : Pos} {is : List Nat}
theorem ret_less {K : PySem.W.Frag} {G : Gh} {B : List Addr} {σ : L2.St} {ρ : En} {H : Hp} {v : V} {d : D} (o : Ok K aw G B σ ρ H) (r : Rp K aw (cut H B) v d) : World aw (cut H G.Bc) ∧ Rp K aw (cut H G.Bc) v d := by
  have e : Ext aw (cut H B) (cut H G.Bc) := cut_less o.sub
  refine ⟨o.wld.ext e ?_, r.ext o.wld.ne e⟩
  intro a ea
  unfold cut
  rw [if_neg (o.awB a ea), if_neg fun z => o.awB a ea (o.sub _ z)]
theorem ss_nil : SSs X aw [] sNext := pss_to pss_nil fun Dn σ H => by
  rintro ⟨G, B, ρ, P, o, hs, h1, _⟩
  exact h1 σ H ρ B o (.refl _ _) hs
theorem ss_cons (h1 : SS X aw st s) (h2 : SSs X aw rest t) : SSs X aw (st :: rest) (sSeq s t) := pss_to (pss_cons h1 h2) fun Dn σ H => by
  rintro ⟨G, B, ρ, P, o, hs, k1, k2, k3, k4⟩
  refine ⟨G, B, ρ, _, o, hs, fun σ' H' ρ' B' o' e' q' => ?_, k2, k3, k4⟩
  exact ⟨G, B', ρ', P, o', q', fun σ2 H2 ρ2 B2 o2 e2 q2 => k1 σ2 H2 ρ2 B2 o2 (e'.trans e2) q2, k2, fun σ2 H2 ρ2 B2 o2 e2 q2 => k3 σ2 H2 ρ2 B2 o2 (e'.trans e2) q2, fun σ2 H2 ρ2 B2 o2 e2 q2 => k4 σ2 H2 ρ2 B2 o2 (e'.trans e2) q2⟩
theorem ss_one (h1 : SS X aw st s) : SSs X aw [st] s := pss_one h1
theorem ss_brk : SS X aw (.Break pos) sBreak := ps_to ps_break fun Dn σ H => by
  rintro ⟨G, B, ρ, P, o, hs, k1, k2, k3, k4⟩
  exact k3 σ H ρ B o (.refl _ _) hs
theorem ss_cont : SS X aw (.Continue pos) sCont := ps_to ps_continue fun Dn σ H => by
  rintro ⟨G, B, ρ, P, o, hs, k1, k2, k3, k4⟩
  exact k4 σ H ρ B o (.refl _ _) hs
theorem ss_never : SS X aw st sNever := ps_to ps_never fun Dn σ H => by
  rintro ⟨G, B, ρ, P, o, hs, _⟩
  exact hs.elim
theorem asg_reads : ∀ Dn σ H, tS X.K aw (sAsg m g) Dn σ H → tAsg (tM X.K aw m) (tG X.K aw is g) Dn σ H := fun Dn σ H => by
  rintro ⟨G, B, ρ, P, o, hs, k1, k2, k3, k4⟩
  refine ⟨G, B, ρ, _, o, hs, fun v H1 d e1 w1 r1 q1 => ?_⟩
  exact ⟨G, B, ρ, d, _, o.grow e1 w1, r1, q1, fun σ' ρ' o' _ q' => k1 σ' H1 ρ' B o' (cut_ext e1) q'⟩
theorem ss_asg (he : SE X aw e m) (hg : SG X aw is c g) (hs : swapsWithSole [c] e pos.line X.env = pure false := by rfl) (hw : swappedStores [c] e X.env = pure none := by rfl) (h1 : (assignEach [c] X.env).map (·.2) = [assign c X.env] := by rfl) : SS X aw (.Assign [c] e pos) (sAsg m g) :=
  ps_to (ps_asg he hg hs hw h1) (asg_reads (is := is))
theorem ss_ret (he : SE X aw e m) : SS X aw (.Return (some e) pos) (sRet m) := ps_to (ps_ret he) fun Dn σ H => by
  rintro ⟨G, B, ρ, P, o, hs, k1, k2, k3, k4⟩
  refine ⟨G, B, ρ, _, o, hs, fun v H1 d e1 w1 r1 q1 => ?_⟩
  have o1 := o.grow e1 w1
  obtain ⟨w2, r2⟩ := ret_less o1 r1
  exact k2 v H1 d o1.ext w2 r2 q1
theorem ss_if (hc : ST X aw c tt) (ha : SSs X aw sts s) (hb : SSs X aw sts2 t) : SS X aw (.If c sts sts2 pos) (sIf tt s t) := ps_to (ps_if hc ha hb) fun Dn σ H => by
  rintro ⟨G, B, ρ, P, o, hs, k1, k2, k3, k4⟩
  refine ⟨G, B, ρ, _, o, hs, fun H1 b e1 w1 q1 => ?_⟩
  have ec : Ext aw (cut H B) (cut H1 B) := cut_ext e1
  cases b with
  | true => exact ⟨G, B, ρ, P, o.grow e1 w1, q1, fun σ2 H2 ρ2 B2 o2 e2 q2 => k1 σ2 H2 ρ2 B2 o2 (ec.trans e2) q2, k2, fun σ2 H2 ρ2 B2 o2 e2 q2 => k3 σ2 H2 ρ2 B2 o2 (ec.trans e2) q2, fun σ2 H2 ρ2 B2 o2 e2 q2 => k4 σ2 H2 ρ2 B2 o2 (ec.trans e2) q2⟩
  | false => exact ⟨G, B, ρ, P, o.grow e1 w1, q1, fun σ2 H2 ρ2 B2 o2 e2 q2 => k1 σ2 H2 ρ2 B2 o2 (ec.trans e2) q2, k2, fun σ2 H2 ρ2 B2 o2 e2 q2 => k3 σ2 H2 ρ2 B2 o2 (ec.trans e2) q2, fun σ2 H2 ρ2 B2 o2 e2 q2 => k4 σ2 H2 ρ2 B2 o2 (ec.trans e2) q2⟩
theorem ss_drop (he : SE X aw e m) (hs : swapsWith e none pos.line X.env = pure false := by rfl) : SS X aw (.Expr e pos) (sDrop m) := ps_to (ps_expr he hs) fun Dn σ H => by
  rintro ⟨G, B, ρ, P, o, hs, k1, k2, k3, k4⟩
  exact ⟨G, B, ρ, _, o, hs, fun v H1 d e1 w1 r1 q1 => k1 σ H1 ρ B (o.grow e1 w1) (cut_ext e1) q1⟩
theorem ss_par {i j : Nat} {st : Stmt} (h : PS X st (tPar i j (tA X.K aw ta))) : SS X aw st (sPar i j ta) := ps_to h fun Dn σ H => by
  rintro ⟨G, B, ρ, P, o, hs, k1, k2, k3, k4⟩
  refine ⟨G, B, ρ, _, o, hs, fun vs H1 ds e1 w1 r1 q1 => ?_⟩
  have o1 := o.grow e1 w1
  split at q1
  · cases r1 with
    | cons r0 rr =>
    cases rr with
    | cons r2 rr =>
    cases rr
    exact ⟨_, _, rfl, k1 _ H1 _ B ((o1.set r0 i).set r2 j) (cut_ext e1) q1⟩
  · cases q1
theorem ss_par3 {i j l : Nat} {st : Stmt} (h : PS X st (tPar3 i j l (tA X.K aw ta))) : SS X aw st (sPar3 i j l ta) := ps_to h fun Dn σ H => by
  rintro ⟨G, B, ρ, P, o, hs, k1, k2, k3, k4⟩
  refine ⟨G, B, ρ, _, o, hs, fun vs H1 ds e1 w1 r1 q1 => ?_⟩
  have o1 := o.grow e1 w1
  split at q1
  · cases r1 with
    | cons r0 rr =>
    cases rr with
    | cons r2 rr =>
    cases rr with
    | cons r3 rr =>
    cases rr
    exact ⟨_, _, _, rfl, k1 _ H1 _ B (((o1.set r0 i).set r2 j).set r3 l) (cut_ext e1) q1⟩
  · cases q1
theorem Ok.freeze {K : PySem.W.Frag} {G : Gh} {B : List Addr} {σ : L2.St} {ρ : En} {H : Hp} {i : Nat} {ds : List D} (o : Ok K aw G B σ ρ H) (h : ρ[i]? = some (.ow ds)) :
    ∃ B', Ok K aw G B' σ (ρ.set i (.va (.list ds))) H ∧ Ext aw (cut H B) (cut H B') := by
  obtain ⟨p, xs, e, hp, h0, hc, hx, r⟩ := o.getO h
  have s : ∀ a ∈ B.filter (· ≠ p), a ∈ B := fun a ha => (List.mem_filter.mp ha).1
  have np : p ∉ B.filter (· ≠ p) := fun z => by simpa using (List.mem_filter.mp z).2
  have ec : Ext aw (cut H B) (cut H (B.filter (· ≠ p))) := cut_less s
  refine ⟨B.filter (· ≠ p), ⟨o.ext, o.wld.ext ec ?_, fun q hq => ?_, fun q hq => o.own q (s q hq), by simp [o.len], fun j sl hs => ?_, fun j k q es fs h1 h2 h3 h4 => ?_⟩, ec⟩
  · intro a ea
    unfold cut
    rw [if_neg (o.awB a ea), if_neg fun z => o.awB a ea (s _ z)]
  · refine List.mem_filter.mpr ⟨o.sub q hq, ?_⟩
    simp only [ne_eq, decide_not, Bool.not_eq_eq_eq_not, Bool.not_true, decide_eq_false_iff_not]
    exact fun z => hc (z ▸ hq)
  · by_cases ej : i = j
    · subst ej
      have hi : i < ρ.length := (List.getElem?_eq_some_iff.mp h).1
      rw [List.getElem?_set_self hi] at hs
      cases hs
      rw [e]
      exact ⟨_, rfl, .lst (cut_of hx np) (r.ext o.wld.ne ec)⟩
    · rw [List.getElem?_set_ne ej] at hs
      have q := o.env j sl hs
      cases sl with
      | no => trivial
      | va d => obtain ⟨v, e1, r1⟩ := q; exact ⟨v, e1, r1.ext o.wld.ne ec⟩
      | ow es =>
        obtain ⟨p', xs', e1, hp', h0', hc', hx', r'⟩ := q
        refine ⟨p', xs', e1, List.mem_filter.mpr ⟨hp', ?_⟩, h0', hc', hx', r'.ext o.wld.ne ec⟩
        simp only [ne_eq, decide_not, Bool.not_eq_eq_eq_not, Bool.not_true, decide_eq_false_iff_not]
        intro z
        subst z
        have e1' : σ[j]? = some (some (V.ref p')) := by
          cases q : σ[j]? with
          | none => rw [q] at e1; cases e1
          | some sv => rw [q] at e1; exact congrArg some e1
        exact ej (o.apart i j p' ds es h hs e e1')
  · obtain ⟨n1, h1⟩ := set_ow (fun _ z => by cases z) h1
    obtain ⟨n2, h2⟩ := set_ow (fun _ z => by cases z) h2
    exact o.apart j k q es fs h1 h2 h3 h4
theorem ss_freeze {i : Nat} (h : SSs X aw sts s) : SSs X aw sts (sFreeze i s) := pss_to h fun Dn σ H => by
  rintro ⟨G, B, ρ, P, o, hs, k1, k2, k3, k4⟩
  unfold sFreeze at hs
  split at hs
  · rename_i ds hd
    obtain ⟨B', o', ec⟩ := o.freeze hd
    exact ⟨G, B', _, P, o', hs, fun σ2 H2 ρ2 B2 o2 e2 q2 => k1 σ2 H2 ρ2 B2 o2 (ec.trans e2) q2, k2, fun σ2 H2 ρ2 B2 o2 e2 q2 => k3 σ2 H2 ρ2 B2 o2 (ec.trans e2) q2, fun σ2 H2 ρ2 B2 o2 e2 q2 => k4 σ2 H2 ρ2 B2 o2 (ec.trans e2) q2⟩
  · cases hs
end


/-! ### what is walked -/
/-- J walks ds while Hw stands; what it yields is worth its datum over Hv -/
structure Walk (K : PySem.W.Frag) (aw : Option Addr) (J : It) (Hw Hv : Hp) (ds : List D) : Prop where
  go : ∀ (i : Nat) (H : Hp) (d : D), Ext aw Hw H → ds[i]? = some d → J.go i H
  yld : ∀ (i : Nat) (H : Hp) (x : V) (H' : Hp) (d : D), Ext aw Hw H → ds[i]? = some d → J.yld i H x H' → H' = H ∧ Rp K aw Hv x d
  stop : ∀ (i : Nat) (H : Hp), Ext aw Hw H → ds.length ≤ i → J.stop i H
def tI (K : PySem.W.Frag) (aw : Option Addr) (it : En → M (List D)) : TI := fun σ H R => ∃ G B ρ Q, Ok K aw G B σ ρ H ∧ it ρ Q ∧ ∀ J H' ds Hv, Ext aw H H' → World aw (cut H' B) → Walk K aw J Hv Hv ds → World aw Hv → Ext aw Hv (cut H' B) → Q ds → R J H'
def tIc (K : PySem.W.Frag) (aw : Option Addr) (it : En → M (List D)) : TI := fun σ H R => ∃ G B ρ Q, Ok K aw G B σ ρ H ∧ it ρ Q ∧ ∀ J H' ds Hw Hv, Ext aw H H' → World aw (cut H' B) → Walk K aw J Hw Hv ds → World aw Hw → World aw Hv → Ext aw Hw H' → Ext aw Hv (cut H' B) → Q ds → R J H'
abbrev SI (X : Cx) (aw : Option Addr) (tg it : Expr) (m : En → M (List D)) : Prop := PI X tg it (tI X.K aw m)
abbrev SIc (X : Cx) (aw : Option Addr) (tg it : Expr) (m : En → M (List D)) : Prop := PI X tg it (tIc X.K aw m)
theorem pi_to {X : Cx} {tg e : Expr} {t t' : TI} (h : PI X tg e t) (i : ∀ σ H R, t' σ H R → t σ H R) : PI X tg e t' := ⟨fun pins s σ H R I q => h.run pins s σ H R I (i σ H R q)⟩
theorem cut_sub {aw : Option Addr} {H : Hp} {B : List Addr} : Ext aw (cut H B) H := ⟨fun a o _ h => (cut_some h).1, fun _ _ kvs h => ⟨kvs, (cut_some h).1⟩⟩
section
variable {X : Cx} {aw : Option Addr} {tg it : Expr} {m : En → M (List D)}
theorem si_c (h : SI X aw tg it m) : SIc X aw tg it m := pi_to h fun σ H R => by
  rintro ⟨G, B, ρ, Q, o, hm, k⟩
  exact ⟨G, B, ρ, Q, o, hm, fun J H' ds Hv e w W wv ev q => k J H' ds Hv Hv e w W wv wv (ev.trans cut_sub) ev q⟩
end
def itL (m : En → M D) : En → M (List D) := fun ρ Q => m ρ fun d => match d with
  | .list ds => Q ds
  | _ => False
def itT (m : En → M D) : En → M (List D) := fun ρ Q => m ρ fun d => match d with
  | .tuple ds => Q ds
  | _ => False
def rngD (a : Int) (n : Nat) : List D := (List.range n).map fun i : Nat => PyData.int (a + (i : Int))
def itR1 (t : En → M (List D)) : En → M (List D) := fun ρ Q => t ρ fun ds => match ds with
  | [.int b] => b ≤ 100000 ∧ -100000 ≤ b ∧ Q (rngD 0 b.toNat)
  | _ => False
def itR2 (t : En → M (List D)) : En → M (List D) := fun ρ Q => t ρ fun ds => match ds with
  | [.int a, .int b] => (a ≤ 100000 ∧ -100000 ≤ a) ∧ (b ≤ 100000 ∧ -100000 ≤ b) ∧ Q (rngD a (b - a).toNat)
  | _ => False
section
variable {X : Cx} {aw : Option Addr} {tg e a b : Expr} {m : En → M D} {t : En → M (List D)} {p pos : Pos}
theorem walk_list {K : PySem.W.Frag} {H : Hp} {a : Addr} {xs : List V} {ds : List D} (hw : NT H aw) (h : H a = some (.lst xs)) (r : RpA K aw H xs ds) : Walk K aw (Itl K a) H H ds := by
  refine ⟨fun i H' d e hd => ?_, fun i H' x H2 d e hd hy => ?_, fun i H' e hi => ?_⟩
  · obtain ⟨v, hv, _⟩ := r.get hd
    exact ⟨xs, v, .inl (.inl (e.ap a _ fx_lst h)), hv⟩
  · obtain ⟨e2, f⟩ := hy
    obtain ⟨v, hv, rv⟩ := r.get hd
    have := f xs (.inl (.inl (e.ap a _ fx_lst h)))
    rw [hv] at this
    cases this
    exact ⟨e2, rv⟩
  · exact ⟨xs, .inl (.inl (e.ap a _ fx_lst h)), by rw [r.length]; exact hi⟩
theorem walk_tup {K : PySem.W.Frag} {H : Hp} {a : Addr} {xs : List V} {ds : List D} (hw : NT H aw) (h : SqT K H a xs) (r : RpA K aw H xs ds) : Walk K aw (Itt K a) H H ds := by
  refine ⟨fun i H' d e hd => ?_, fun i H' x H2 d e hd hy => ?_, fun i H' e hi => ?_⟩
  · obtain ⟨v, hv, _⟩ := r.get hd
    exact ⟨xs, v, sqT_ext hw e h, hv⟩
  · obtain ⟨e2, f⟩ := hy
    obtain ⟨v, hv, rv⟩ := r.get hd
    have := f xs (sqT_ext hw e h)
    rw [hv] at this
    cases this
    exact ⟨e2, rv⟩
  · exact ⟨xs, sqT_ext hw e h, by rw [r.length]; exact hi⟩
theorem walk_rng {K : PySem.W.Frag} {H : Hp} {a : Int} {n : Nat} : Walk K aw (Itr a n) H H (rngD a n) := by
  have l : (rngD a n).length = n := by simp [rngD]
  refine ⟨fun i H' d e hd => ?_, fun i H' x H2 d e hd hy => ?_, fun i H' e hi => ?_⟩
  · have := (List.getElem?_eq_some_iff.mp hd).1
    rw [l] at this
    exact this
  · obtain ⟨e2, f⟩ := hy
    subst f
    refine ⟨e2, ?_⟩
    obtain ⟨h1, h2⟩ := List.getElem?_eq_some_iff.mp hd
    simp only [rngD, List.getElem_map, List.getElem_range] at h2
    subst h2
    exact .int _
  · show n ≤ i
    rw [l] at hi
    exact hi
theorem si_list (h : SE X aw e m) : SI X aw tg e (itL m) := pi_to (pi_list h) fun σ H R => by
  rintro ⟨G, B, ρ, Q, o, hm, k⟩
  refine ⟨G, B, ρ, _, o, hm, fun v H1 d e1 w1 r1 q1 => ?_⟩
  cases d with
  | list ds =>
    cases r1 with
    | lst h1 r2 => exact ⟨_, rfl, ⟨_, .inl (.inl (cut_some h1).1)⟩, k _ H1 ds _ e1 w1 (walk_list w1.ne h1 r2) w1 (.refl _ _) q1⟩
  | _ => cases q1
theorem si_tup (h : SE X aw e m) : SI X aw tg e (itT m) := pi_to (pi_tup h) fun σ H R => by
  rintro ⟨G, B, ρ, Q, o, hm, k⟩
  refine ⟨G, B, ρ, _, o, hm, fun v H1 d e1 w1 r1 q1 => ?_⟩
  cases d with
  | tuple ds =>
    cases r1 with
    | tup h1 r2 => exact ⟨_, rfl, ⟨_, sqT_less h1⟩, k _ H1 ds _ e1 w1 (walk_tup w1.ne h1 r2) w1 (.refl _ _) q1⟩
  | _ => cases q1
theorem si_rng1 (hg : Gl X "range") (hm : X.mg "range" = none) (ha : SA X aw [a] t) (hs : starEach [a] X.env = [(false, eval a X.env)] := by rfl) : SI X aw tg (.Call (.Name "range" p) [a] [] pos) (itR1 t) := pi_to (pi_range1 hg hm ha hs) fun σ H R => by
  rintro ⟨G, B, ρ, Q, o, hm, k⟩
  refine ⟨G, B, ρ, _, o, hm, fun vs H1 ds e1 w1 r1 q1 => ?_⟩
  split at q1
  · cases r1 with
    | cons r0 rr =>
    cases rr
    cases r0
    exact ⟨_, rfl, by omega, by omega, k _ H1 _ _ e1 w1 walk_rng w1 (.refl _ _) q1.2.2⟩
  · cases q1
theorem si_rng2 (hg : Gl X "range") (hm : X.mg "range" = none) (ha : SA X aw [a, b] t) (hs : starEach [a, b] X.env = [(false, eval a X.env), (false, eval b X.env)] := by rfl) (hs2 : starEach [b] X.env = [(false, eval b X.env)] := by rfl) : SI X aw tg (.Call (.Name "range" p) [a, b] [] pos) (itR2 t) := pi_to (pi_range2 hg hm ha hs hs2) fun σ H R => by
  rintro ⟨G, B, ρ, Q, o, hm, k⟩
  refine ⟨G, B, ρ, _, o, hm, fun vs H1 ds e1 w1 r1 q1 => ?_⟩
  split at q1
  · cases r1 with
    | cons r0 rr =>
    cases rr with
    | cons r3 rr =>
    cases rr
    cases r0
    cases r3
    exact ⟨_, _, rfl, ⟨by omega, by omega, by omega, by omega⟩, k _ H1 _ _ e1 w1 walk_rng w1 (.refl _ _) q1.2.2⟩
  · cases q1
end

/-! ### loops -/
def forW (g : MG) (b : MS) : List D → En → Po → Prop
  | [], ρ, P => P.nx ρ
  | d :: ds, ρ, P => g d ρ fun ρ1 => b ρ1 { nx := fun ρ2 => forW g b ds ρ2 P, rt := P.rt, bk := P.nx, ct := fun ρ2 => forW g b ds ρ2 P }
def sFor (it : En → M (List D)) (g : MG) (b : MS) : MS := fun ρ P => it ρ fun ds => forW g b ds ρ P
def whileW (c : En → M Bool) (b : MS) : Nat → En → Po → Prop
  | 0, _, _ => False
  | n + 1, ρ, P => c ρ fun x => if x = true then b ρ { nx := fun ρ2 => whileW c b n ρ2 P, rt := P.rt, bk := P.nx, ct := fun ρ2 => whileW c b n ρ2 P } else P.nx ρ
def sWhile (c : En → M Bool) (b : MS) : MS := fun ρ P => ∃ n, whileW c b n ρ P
section
variable {X : Cx} {aw : Option Addr} {tg it c : Expr} {m : En → M (List D)} {g : MG} {b : MS} {is : List Nat} {body : List Stmt} {pos : Pos} {tt : En → M Bool}
theorem ss_for (hp : PassesOwn (model X.prog X.w) X.A X.env X.xe) (hc : X.calm = true) (hi : SI X aw tg it m) (hg : SG X aw is tg g) (hb : SSs X aw body b) (hs : ∀ x, foldedSetIterable it X.env x = pure x := by intro _; rfl) : SS X aw (.For tg it body [] pos) (sFor m g b) :=
  ps_to (ps_for hp hc hi hg hb hs) fun Dn σ H => by
    rintro ⟨G, B, ρ, P, o, hm, k1, k2, k3, k4⟩
    refine ⟨G, B, ρ, _, o, hm, fun J H1 ds Hv e1 w1 W wv ev q1 => ?_⟩
    have o1 := o.grow e1 w1
    have ec : Ext aw (cut H B) (cut H1 B) := cut_ext e1
    refine ⟨fun i n σ' H' => ∃ ρ' B', Ok X.K aw G B' σ' ρ' H' ∧ Ext aw (cut H1 B) (cut H' B') ∧ i + n = ds.length ∧ forW g b (ds.drop i) ρ' P, ⟨ds.length, ρ, B, o1, .refl _ _, by omega, by rw [List.drop_zero]; exact q1⟩, ?_⟩
    rintro i n σ' H' ⟨ρ', B', o', x', hl, q⟩
    have evH : Ext aw Hv H' := (ev.trans x').trans cut_sub
    by_cases hi : i < ds.length
    · have hd : ds[i]? = some ds[i] := List.getElem?_eq_getElem hi
      rw [List.drop_eq_getElem_cons hi] at q
      refine .inr ⟨W.go i H' _ evH hd, fun σ2 H2 => ∃ ρ2 B2, Ok X.K aw G B2 σ2 ρ2 H2 ∧ Ext aw (cut H1 B) (cut H2 B2) ∧ forW g b (ds.drop (i + 1)) ρ2 P, ?_, fun x H2 hy => ?_⟩
      · rintro σ2 H2 ⟨ρ2, B2, o2, x2, q2⟩
        exact ⟨n - 1, by omega, ρ2, B2, o2, x2, by omega, q2⟩
      · obtain ⟨e2, r⟩ := W.yld i H' x H2 _ evH hd hy
        subst e2
        refine ⟨G, B', ρ', ds[i], _, o', r.ext wv.ne (ev.trans x'), q, fun σ3 ρ3 o3 _ q3 => ?_⟩
        refine ⟨G, B', ρ3, _, o3, q3, fun σ4 H4 ρ4 B4 o4 e4 q4 => ⟨ρ4, B4, o4, x'.trans e4, q4⟩, k2, fun σ4 H4 ρ4 B4 o4 e4 q4 => k1 σ4 H4 ρ4 B4 o4 (ec.trans (x'.trans e4)) q4, fun σ4 H4 ρ4 B4 o4 e4 q4 => ⟨ρ4, B4, o4, x'.trans e4, q4⟩⟩
    · rw [List.drop_of_length_le (by omega)] at q
      exact .inl ⟨W.stop i H' evH (by omega), k1 σ' H' ρ' B' o' (ec.trans x') q⟩
theorem ss_while (hp : PassesOwn (model X.prog X.w) X.A X.env X.xe) (hc : ST X aw c tt) (hb : SSs X aw body b) : SS X aw (.While c body [] pos) (sWhile tt b) :=
  ps_to (ps_while hp hc hb) fun Dn σ H => by
    rintro ⟨G, B, ρ, P, o, ⟨n0, hm⟩, k1, k2, k3, k4⟩
    refine ⟨fun n σ' H' => ∃ ρ' B', Ok X.K aw G B' σ' ρ' H' ∧ Ext aw (cut H B) (cut H' B') ∧ whileW tt b n ρ' P, ⟨n0, ρ, B, o, .refl _ _, hm⟩, ?_⟩
    rintro n σ' H' ⟨ρ', B', o', x', q⟩
    cases n with
    | zero => exact q.elim
    | succ n =>
    refine ⟨G, B', ρ', _, o', q, fun H2 v e2 w2 q2 => ?_⟩
    have o2 := o'.grow e2 w2
    have x2 := x'.trans (cut_ext (B := B') e2)
    cases v with
    | true =>
      refine ⟨fun σ4 H4 => ∃ ρ4 B4, Ok X.K aw G B4 σ4 ρ4 H4 ∧ Ext aw (cut H B) (cut H4 B4) ∧ whileW tt b n ρ4 P, ?_, ?_⟩
      · rintro σ4 H4 ⟨ρ4, B4, q4⟩
        exact ⟨n, Nat.lt_succ_self n, ρ4, B4, q4⟩
      · exact ⟨G, B', ρ', _, o2, q2, fun σ4 H4 ρ4 B4 o4 e4 q4 => ⟨ρ4, B4, o4, x2.trans e4, q4⟩, k2, fun σ4 H4 ρ4 B4 o4 e4 q4 => k1 σ4 H4 ρ4 B4 o4 (x2.trans e4) q4, fun σ4 H4 ρ4 B4 o4 e4 q4 => ⟨ρ4, B4, o4, x2.trans e4, q4⟩⟩
    | false => exact k1 σ' H2 ρ' B' o2 x2 q2
end


/-! ### own lists -/
section
variable {K : PySem.W.Frag} {aw : Option Addr} {G : Gh} {B : List Addr} {σ : L2.St} {ρ : En} {H H' : Hp}
theorem ne_mem {p q : Addr} (h : q ∈ B) (n : p ∉ B) : q ≠ p := fun z => n (by rw [← z]; exact h)
theorem cut_new {p : Addr} {o : HO} (hp : H p = none) : cut (upd H p o) (p :: B) = cut H B := by
  funext a
  unfold cut
  by_cases e : a = p
  · subst e
    rw [if_pos List.mem_cons_self, hp]
    split <;> rfl
  · rw [upd_ne e]
    by_cases h : a ∈ B
    · rw [if_pos h, if_pos (List.mem_cons_of_mem _ h)]
    · rw [if_neg h, if_neg fun z => (List.mem_cons.mp z).elim e h]
/-- a new list, one's own -/
theorem Ok.made (o : Ok K aw G B σ ρ H) {p : Addr} (hp : H p = none) {xs : List V} {ds : List D} (r : RpA K aw (cut H B) xs ds) (i : Nat) : Ok K aw G (p :: B) (σ.set i (some (.ref p))) (ρ.set i (.ow ds)) (upd H p (.lst xs)) := by
  have ec : cut (upd H p (.lst xs)) (p :: B) = cut H B := cut_new hp
  have npB : p ∉ B := fun z => by
    obtain ⟨ys, h⟩ := o.own p z
    rw [hp] at h; cases h
  have npaw : some p ≠ aw := fun z => by
    obtain ⟨kvs, h⟩ := o.wld.ne p z.symm
    have := (cut_some h).1
    rw [hp] at this; cases this
  have h0 : G.H0 p = none := by
    cases q : G.H0 p with
    | none => rfl
    | some u => have := o.ext.ap p u (fx_ne npaw) q; rw [hp] at this; cases this
  refine ⟨o.ext.trans (.new hp), by rw [ec]; exact o.wld, fun q hq => List.mem_cons_of_mem _ (o.sub q hq), fun q hq => ?_, by simp [o.len], fun j s hs => ?_, fun j k q es fs h1 h2 h3 h4 => ?_⟩
  · rcases List.mem_cons.mp hq with e | e
    · subst e; exact ⟨xs, upd_same⟩
    · obtain ⟨ys, h⟩ := o.own q e
      exact ⟨ys, (upd_ne (ne_mem e npB)).trans h⟩
  · by_cases e : i = j
    · subst e
      by_cases hi : i < ρ.length
      · rw [List.getElem?_set_self hi] at hs
        cases hs
        rw [List.getElem?_set_self (by rw [o.len]; exact hi)]
        exact ⟨p, xs, rfl, List.mem_cons_self, h0, fun z => npB (o.sub p z), upd_same, by rw [ec]; exact r⟩
      · rw [List.getElem?_eq_none (by simpa using hi)] at hs; cases hs
    · rw [List.getElem?_set_ne e] at hs
      rw [List.getElem?_set_ne e]
      have q := o.env j s hs
      cases s with
      | no => trivial
      | va d => obtain ⟨v, e1, r1⟩ := q; exact ⟨v, e1, by rw [ec]; exact r1⟩
      | ow es =>
        obtain ⟨p', ys, e1, hp', a1, a2, hx, r'⟩ := q
        exact ⟨p', ys, e1, List.mem_cons_of_mem _ hp', a1, a2, (upd_ne (ne_mem hp' npB)).trans hx, by rw [ec]; exact r'⟩
  · by_cases ej : i = j
    · by_cases ek : i = k
      · rw [← ej, ← ek]
      · exfalso
        rw [List.getElem?_set_ne ek] at h2 h4
        subst ej
        have hi : i < σ.length := by
          by_cases hi : i < ρ.length
          · rw [o.len]; exact hi
          · rw [List.getElem?_eq_none (by simpa using hi)] at h1; cases h1
        rw [List.getElem?_set_self hi] at h3
        have e3 : p = q := by injection h3 with h3; injection h3 with h3; injection h3
        obtain ⟨p', ys, e1, hp', _⟩ := o.getO h2
        rw [h4] at e1
        have e4 : q = p' := by injection e1 with h3; injection h3 with h3; injection h3
        exact npB (by rw [e3, e4]; exact hp')
    · by_cases ek : i = k
      · exfalso
        rw [List.getElem?_set_ne ej] at h1 h3
        subst ek
        have hi : i < σ.length := by
          by_cases hi : i < ρ.length
          · rw [o.len]; exact hi
          · rw [List.getElem?_eq_none (by simpa using hi)] at h2; cases h2
        rw [List.getElem?_set_self hi] at h4
        have e3 : p = q := by injection h4 with h3; injection h3 with h3; injection h3
        obtain ⟨p', ys, e1, hp', _⟩ := o.getO h1
        rw [h3] at e1
        have e4 : q = p' := by injection e1 with h3; injection h3 with h3; injection h3
        exact npB (by rw [e3, e4]; exact hp')
      · rw [List.getElem?_set_ne ej] at h1 h3
        rw [List.getElem?_set_ne ek] at h2 h4
        exact o.apart j k q es fs h1 h2 h3 h4
/-- the own list in a slot is another -/
theorem Ok.upd (o : Ok K aw G B σ ρ H) {i : Nat} {p : Addr} {ds es : List D} {ys : List V} (h : ρ[i]? = some (.ow ds)) (hs : σ[i]? = some (some (.ref p))) (r : RpA K aw (cut H B) ys es) : Ok K aw G B σ (ρ.set i (.ow es)) (L2.upd H p (.lst ys)) ∧ p ∈ B := by
  obtain ⟨p', xs, e, hp, h0, hc, hx, r0⟩ := o.getO h
  have ep : p' = p := by rw [hs] at e; injection e with e; injection e with e; injection e with e; exact e.symm
  subst ep
  have ec : cut (L2.upd H p' (.lst ys)) B = cut H B := cut_upd hp
  refine ⟨⟨o.ext.mut h0, by rw [ec]; exact o.wld, o.sub, fun q hq => ?_, by simp [o.len], fun j s hj => ?_, fun j k q fs gs h1 h2 h3 h4 => ?_⟩, hp⟩
  · by_cases e : q = p'
    · subst e; exact ⟨ys, upd_same⟩
    · obtain ⟨zs, hz⟩ := o.own q hq
      exact ⟨zs, by rw [upd_ne e]; exact hz⟩
  · by_cases ej : i = j
    · subst ej
      have hi : i < ρ.length := (List.getElem?_eq_some_iff.mp h).1
      rw [List.getElem?_set_self hi] at hj
      cases hj
      rw [hs]
      exact ⟨p', ys, rfl, hp, h0, hc, upd_same, by rw [ec]; exact r⟩
    · rw [List.getElem?_set_ne ej] at hj
      have q := o.env j s hj
      cases s with
      | no => trivial
      | va d => obtain ⟨v, e1, r1⟩ := q; exact ⟨v, e1, by rw [ec]; exact r1⟩
      | ow fs =>
        obtain ⟨q', zs, e1, hq', a1, a2, hz, r'⟩ := q
        have nq : q' ≠ p' := fun z => by
          subst z
          obtain ⟨q2, zs2, e2, _⟩ := o.getO hj
          have e3 : σ[j]? = some (some (V.ref q')) := by
            rw [e2] at e1 ⊢
            have : some (V.ref q2) = some (V.ref q') := e1
            rw [this]
          exact ej (o.apart i j q' ds fs h hj hs e3)
        exact ⟨q', zs, e1, hq', a1, a2, by rw [upd_ne nq]; exact hz, by rw [ec]; exact r'⟩
  · have g1 : ∀ {n : Nat} {l : List D}, (ρ.set i (Sl.ow es))[n]? = some (Sl.ow l) → ∃ l', ρ[n]? = some (Sl.ow l') := fun {n l} hn => by
      by_cases e : i = n
      · subst e; exact ⟨ds, h⟩
      · rw [List.getElem?_set_ne e] at hn; exact ⟨l, hn⟩
    obtain ⟨l1, h1⟩ := g1 h1
    obtain ⟨l2, h2⟩ := g1 h2
    exact o.apart j k q l1 l2 h1 h2 h3 h4
end
def sOwn (i : Nat) (t : En → M (List D)) : MS := fun ρ P => t ρ fun ds => ds.length ≤ 100000 ∧ P.nx (ρ.set i (.ow ds))
def sApp (i : Nat) (t : En → M (List D)) : MS := fun ρ P => match ρ[i]? with
  | some (.ow ds) => t ρ fun es => match es with
    | [d] => ds.length < 100000 ∧ P.nx (ρ.set i (.ow (ds ++ [d])))
    | _ => False
  | _ => False
def sIns (i : Nat) (t : En → M (List D)) : MS := fun ρ P => match ρ[i]? with
  | some (.ow ds) => t ρ fun es => match es with
    | [.int n, d] => ds.length < 100000 ∧ 0 ≤ n ∧ n ≤ 100000 ∧ P.nx (ρ.set i (.ow (ds.take n.toNat ++ [d] ++ ds.drop n.toNat)))
    | _ => False
  | _ => False
section
variable {X : Cx} {aw : Option Addr} {e : Expr} {es : List Expr} {t : En → M (List D)} {pos : Pos} {i : Nat} {st : Stmt}
theorem ss_own {x : Str} {p : Pos} {pl : Pos} (h : ∀ te, PE X (.List es pl) te → PS X (.Assign [.Name x p] (.List es pl) pos) (tAsg te (gName i))) (ha : SA X aw es t) : SS X aw (.Assign [.Name x p] (.List es pl) pos) (sOwn i t) := ps_to (h _ (pe_lst ha)) fun Dn σ H => by
  rintro ⟨G, B, ρ, P, o, hs, k1, k2, k3, k4⟩
  refine ⟨G, B, ρ, _, o, hs, fun vs H1 ds e1 w1 r1 q1 => ⟨by rw [r1.length]; exact le_line q1.1, fun p hp => ?_⟩⟩
  have o1 := o.grow e1 w1
  refine k1 _ _ _ _ (o1.made hp r1 i) ?_ q1.2
  rw [cut_new hp]
  exact cut_ext e1
theorem getO_V {K : PySem.W.Frag} {G : Gh} {B : List Addr} {σ : L2.St} {ρ : En} {H : Hp} {ds : List D} (o : Ok K aw G B σ ρ H) (h : ρ[i]? = some (.ow ds)) : ∃ p xs, σ[i]? = some (some (.ref p)) ∧ H p = some (.lst xs) ∧ RpA K aw (cut H B) xs ds := by
  obtain ⟨p, xs, a, _, _, _, b, c⟩ := o.getO h
  exact ⟨p, xs, a, b, c⟩
theorem ss_app (h : PS X st (tDrop (tBM X.K "list" rAppend (tVar i) (tA X.K aw t)))) : SS X aw st (sApp i t) := ps_to h fun Dn σ H => by
  rintro ⟨G, B, ρ, P, o, hs, k1, k2, k3, k4⟩
  unfold sApp at hs
  split at hs
  · rename_i ds hd
    obtain ⟨p, xs, e, hx, r⟩ := getO_V o hd
    refine ⟨_, e, .inl ⟨rfl, xs, .inl (.inl hx)⟩, G, B, ρ, _, o, hs, fun vs H1 es e1 w1 r1 q1 => ?_⟩
    split at q1
    · rename_i d
      cases r1 with
      | cons r0 rr =>
      cases rr
      have o1 := o.grow e1 w1
      obtain ⟨p', xs', e', hx', r'⟩ := getO_V o1 hd
      rw [e] at e'
      have ep : p = p' := by injection e' with e'; injection e' with e'; injection e'
      subst ep
      obtain ⟨o2, hp⟩ := o1.upd hd e (r'.app (.cons r0 .nil))
      refine ⟨p, xs', _, rfl, rfl, hx', by rw [r'.length]; exact lt_line q1.1, ?_⟩
      refine k1 _ _ _ B o2 ?_ q1.2
      rw [cut_upd hp]
      exact cut_ext e1
    · cases q1
  · cases hs
theorem ss_ins (h : PS X st (tDrop (tBM X.K "list" (fun x vs H Q => ∃ (l : Addr) (xs : List V) (i : Int) (y : V), x = .ref l ∧ vs = [.int i, y] ∧ H l = some (.lst xs) ∧ xs.length < sizeLine ∧ 0 ≤ i ∧ i < 2 ^ 63 ∧
    Q .non (upd H l (.lst (xs.take i.toNat ++ [y] ++ xs.drop i.toNat)))) (tVar i) (tA X.K aw t)))) : SS X aw st (sIns i t) := ps_to h fun Dn σ H => by
  rintro ⟨G, B, ρ, P, o, hs, k1, k2, k3, k4⟩
  unfold sIns at hs
  split at hs
  · rename_i ds hd
    obtain ⟨p, xs, e, hx, r⟩ := getO_V o hd
    refine ⟨_, e, .inl ⟨rfl, xs, .inl (.inl hx)⟩, G, B, ρ, _, o, hs, fun vs H1 es e1 w1 r1 q1 => ?_⟩
    split at q1
    · rename_i n d
      cases r1 with
      | cons r0 rr =>
      cases rr with
      | cons r2 rr =>
      cases rr
      cases r0
      have o1 := o.grow e1 w1
      obtain ⟨p', xs', e', hx', r'⟩ := getO_V o1 hd
      rw [e] at e'
      have ep : p = p' := by injection e' with e'; injection e' with e'; injection e'
      subst ep
      obtain ⟨o2, hp⟩ := o1.upd hd e (((r'.take n.toNat).app (.cons r2 .nil)).app (r'.drop n.toNat))
      refine ⟨p, xs', n, _, rfl, rfl, hx', by rw [r'.length]; exact lt_line q1.1, q1.2.1, by have := q1.2.2.1; omega, ?_⟩
      refine k1 _ _ _ B o2 ?_ q1.2.2.2
      rw [cut_upd hp]
      exact cut_ext e1
    · cases q1
  · cases hs
/-- walking an own list in a comprehension -/
def itO (i : Nat) : En → M (List D) := fun ρ Q => match ρ[i]? with
  | some (.ow ds) => Q ds
  | _ => False
theorem si_own {tg : Expr} {x : Str} {p : Pos} (h : PE X (.Name x p) (tVar i)) : SIc X aw tg (.Name x p) (itO i) := pi_to (pi_list h) fun σ H R => by
  rintro ⟨G, B, ρ, Q, o, hm, k⟩
  unfold itO at hm
  split at hm
  · rename_i ds hd
    obtain ⟨p, xs, e, hx, r⟩ := getO_V o hd
    refine ⟨_, e, p, rfl, ⟨xs, .inl (.inl hx)⟩, ?_⟩
    have ww : World aw H := o.wld.ext cut_sub (fun a ea => by unfold cut; rw [if_neg (o.awB a ea)])
    have W0 := walk_list ww.ne hx (r.ext o.wld.ne cut_sub)
    refine k _ H ds H (cut H B) (.refl _ _) o.wld ⟨W0.go, fun i H' x H2 d e hd hy => ?_, W0.stop⟩ ww o.wld (.refl _ _) (.refl _ _) hm
    obtain ⟨e2, f⟩ := hy
    obtain ⟨v, hv, rv⟩ := r.get hd
    have := f xs (.inl (.inl (e.ap p _ fx_lst hx)))
    rw [hv] at this
    cases this
    exact ⟨e2, rv⟩
  · cases hm
end
/-! ### comprehensions -/
def wipeE (ρ : En) : List Nat → En
  | [] => ρ
  | v :: vs => (wipeE ρ vs).set v .no
def lcW (g : MG) (c : En → M Bool) (m : En → M D) (ρ0 : En) : List D → List D → M (List D)
  | [], acc, Q => Q acc
  | d :: ds, acc, Q => g d ρ0 fun ρ1 => c ρ1 fun b => if b = true then m ρ1 fun y => lcW g c m ρ0 ds (acc ++ [y]) Q else lcW g c m ρ0 ds acc Q
def eLc (it : En → M (List D)) (is : List Nat) (g : MG) (c : En → M Bool) (m : En → M D) : En → M D := fun ρ Q => it ρ fun ds => ds.length < 100000 ∧ lcW g c m (wipeE ρ is) ds [] fun out => Q (.list out)
def mYes : En → M Bool := fun _ Q => Q true
section
variable {K : PySem.W.Frag} {aw : Option Addr} {G : Gh} {B : List Addr} {σ : L2.St} {ρ : En} {H H1 : Hp}
theorem wipeE_length (ρ : En) : ∀ vs : List Nat, (wipeE ρ vs).length = ρ.length
  | [] => rfl
  | v :: vs => by unfold wipeE; rw [List.length_set, wipeE_length ρ vs]
theorem wipeE_get {ρ : En} {i : Nat} {s : Sl} : ∀ {vs : List Nat}, (wipeE ρ vs)[i]? = some s → s ≠ .no → ρ[i]? = some s ∧ i ∉ vs
  | [], h, _ => ⟨h, by simp⟩
  | v :: vs, h, n => by
    unfold wipeE at h
    by_cases hi : v = i
    · subst hi
      by_cases hv : v < (wipeE ρ vs).length
      · rw [List.getElem?_set_self hv] at h; exact absurd (Option.some.inj h).symm n
      · rw [List.getElem?_eq_none (by simpa using hv)] at h; cases h
    · rw [List.getElem?_set_ne hi] at h
      obtain ⟨h1, h2⟩ := wipeE_get h n
      exact ⟨h1, by simp only [List.mem_cons, not_or]; exact ⟨fun e => hi e.symm, h2⟩⟩
/-- within a comprehension -/
theorem Ok.under (o : Ok K aw G B σ ρ H1) {Dl : Addr} (hD : H1 Dl = none) (e : Ext aw H1 H) (w : World aw (cut H (Dl :: B))) {acc : List V} (hD' : H Dl = some (.lst acc)) (vs : List Nat) :
    Ok K aw G (Dl :: B) (wipe σ vs) (wipeE ρ vs) H ∧ Ext aw (cut H1 B) (cut H (Dl :: B)) := by
  have ec : Ext aw (cut H1 B) (cut H (Dl :: B)) := ⟨fun a u n h => by
    obtain ⟨h1, h2⟩ := cut_some h
    exact cut_of (e.ap a u n h1) fun z => (List.mem_cons.mp z).elim (fun z => by rw [z, hD] at h1; cases h1) h2, fun z ez kvs h => by
    obtain ⟨h1, h2⟩ := cut_some h
    obtain ⟨k', h'⟩ := e.dk z ez kvs h1
    exact ⟨k', cut_of h' fun z => (List.mem_cons.mp z).elim (fun z => by rw [z, hD] at h1; cases h1) h2⟩⟩
  refine ⟨⟨o.ext.trans e, w, fun p hp => List.mem_cons_of_mem _ (o.sub p hp), fun p hp => ?_, by rw [wipe_length, wipeE_length]; exact o.len, fun i s hs => ?_, fun i j p ds es h1 h2 h3 h4 => ?_⟩, ec⟩
  · rcases List.mem_cons.mp hp with z | z
    · rw [z]; exact ⟨acc, hD'⟩
    · obtain ⟨xs, h⟩ := o.own p z
      exact ⟨xs, e.ap p _ fx_lst h⟩
  · cases s with
    | no => trivial
    | va d =>
      obtain ⟨h1, h2⟩ := wipeE_get hs (by simp)
      obtain ⟨v, e1, r⟩ := o.get h1
      exact ⟨v, by rw [wipe_out h2, e1]; rfl, r.ext o.wld.ne ec⟩
    | ow ds =>
      obtain ⟨h1, h2⟩ := wipeE_get hs (by simp)
      obtain ⟨p, xs, e1, hp, a1, a2, hx, r⟩ := o.getO h1
      exact ⟨p, xs, by rw [wipe_out h2, e1]; rfl, List.mem_cons_of_mem _ hp, a1, a2, e.ap p _ fx_lst hx, r.ext o.wld.ne ec⟩
  · obtain ⟨g1, n1⟩ := wipeE_get h1 (by simp)
    obtain ⟨g2, n2⟩ := wipeE_get h2 (by simp)
    rw [wipe_out n1] at h3
    rw [wipe_out n2] at h4
    exact o.apart i j p ds es g1 g2 h3 h4
end
section
variable {X : Cx} {aw : Option Addr} {elt tg iter : Expr} {ifs : List Expr} {scope : Scope} {own : List (Str × Nat)} {pos : Pos} {it : En → M (List D)} {g : MG} {c : En → M Bool} {m : En → M D}
theorem lc_reads : ∀ σ H R, tM X.K aw (eLc it (own.map (·.2)) g c m) σ H R → tLc (tIc X.K aw it) (tG X.K aw (own.map (·.2)) g) (tT X.K aw c) (tM X.K aw m) (own.map (·.2)) σ H R := fun σ H R => by
  rintro ⟨G, B, ρ, Q, o, hm, k⟩
  refine ⟨G, B, ρ, _, o, hm, fun J H1 ds Hw Hv e1 w1 W wW wv eW eV q1 => ?_⟩
  intro Dl hD
  have o1 := o.grow e1 w1
  obtain ⟨hlen, q1⟩ := q1
  have nDaw : some Dl ≠ aw := fun z => by
    obtain ⟨kvs, h⟩ := o1.wld.ne Dl z.symm
    have := (cut_some h).1
    rw [hD] at this; cases this
  refine ⟨fun i n H' => ∃ acc dacc, Ext aw H1 H' ∧ World aw (cut H' (Dl :: B)) ∧ H' Dl = some (.lst acc) ∧ RpA X.K aw (cut H' (Dl :: B)) acc dacc ∧ dacc.length ≤ i ∧ i + n = ds.length ∧ lcW g c m (wipeE ρ (own.map (·.2))) (ds.drop i) dacc fun out => Q (.list out),
    ⟨ds.length, [], [], .new hD, by rw [cut_new hD]; exact w1, upd_same, .nil, by simp, by omega, by rw [List.drop_zero]; exact q1⟩, ?_⟩
  rintro i n H' ⟨acc, dacc, e', w', hD', r', hl, hn, q⟩
  have evH : Ext aw Hw H' := eW.trans e'
  obtain ⟨ou, ec⟩ := o1.under hD e' w' hD' (own.map (·.2))
  by_cases hi : i < ds.length
  · have hd : ds[i]? = some ds[i] := List.getElem?_eq_getElem hi
    rw [List.drop_eq_getElem_cons hi] at q
    refine .inr ⟨W.go i H' _ evH hd, fun H2 => ∃ acc dacc, Ext aw H1 H2 ∧ World aw (cut H2 (Dl :: B)) ∧ H2 Dl = some (.lst acc) ∧ RpA X.K aw (cut H2 (Dl :: B)) acc dacc ∧ dacc.length ≤ i + 1 ∧ lcW g c m (wipeE ρ (own.map (·.2))) (ds.drop (i + 1)) dacc fun out => Q (.list out), ?_, fun x H2 hy => ?_⟩
    · rintro H2 ⟨acc2, dacc2, a1, a2, a3, a4, a5, a6⟩
      exact ⟨n - 1, by omega, acc2, dacc2, a1, a2, a3, a4, a5, by omega, a6⟩
    · obtain ⟨e2, r⟩ := W.yld i H' x H2 _ evH hd hy
      subst e2
      refine ⟨G, Dl :: B, _, ds[i], _, ou, r.ext wv.ne (eV.trans ec), q, fun σ3 ρ3 o3 s3 q3 => ⟨?_, ?_⟩⟩
      · have := s3.wipe
        rw [this]
        have e : ∀ (τ : L2.St) (l : List Nat), wipe (wipe τ l) l = wipe τ l := fun τ l => by
          refine List.ext_getElem? fun j => ?_
          by_cases hj : j ∈ l
          · have lw := wipe_length τ l
            have lw2 := wipe_length (wipe τ l) l
            have none_of : ∀ (τ' : L2.St), (wipe τ' l)[j]? = if j < τ'.length then some none else none := fun τ' => by
              have := wipe_length τ' l
              by_cases hl : j < τ'.length
              · rw [if_pos hl]
                cases q : (wipe τ' l)[j]? with
                | none => rw [List.getElem?_eq_none_iff] at q; omega
                | some s =>
                  cases s with
                  | none => rfl
                  | some v => exact absurd hj (wipe_some q).2
              · rw [if_neg hl, List.getElem?_eq_none (by omega)]
            rw [none_of, none_of, lw]
          · rw [wipe_out hj]
        exact e σ _
      · refine ⟨G, Dl :: B, ρ3, _, o3, q3, fun H3 b e3 w3 q4 => ?_⟩
        have o4 := o3.grow e3 w3
        have hD3 : H3 Dl = some (.lst acc) := e3.ap Dl _ fx_lst hD'
        have r3 : RpA X.K aw (cut H3 (Dl :: B)) acc dacc := r'.ext w'.ne (cut_ext e3)
        cases b with
        | true =>
          refine ⟨G, Dl :: B, ρ3, _, o4, q4, fun y H4 d e5 w5 r5 q5 => ⟨acc, e5.ap Dl _ fx_lst hD3, by rw [r3.length]; exact lt_line (by omega), ?_⟩⟩
          have hD4 : Dl ∈ Dl :: B := List.mem_cons_self
          refine ⟨acc ++ [y], dacc ++ [d], (((e'.trans e3).trans e5).mut hD), by rw [cut_upd hD4]; exact w5, upd_same, by rw [cut_upd hD4]; exact (r3.ext w3.ne (cut_ext e5)).app (.cons r5 .nil), by simp; omega, q5⟩
        | false => exact ⟨acc, dacc, e'.trans e3, w3, hD3, r3, by omega, q4⟩
  · rw [List.drop_of_length_le (by omega)] at q
    refine .inl ⟨W.stop i H' evH (by omega), ?_⟩
    have el : Ext aw (cut H' (Dl :: B)) (cut H' B) := cut_less fun a ha => List.mem_cons_of_mem _ ha
    have nB : Dl ∉ B := fun z => by
      obtain ⟨xs, h⟩ := o1.own Dl z
      rw [hD] at h; cases h
    have wB : World aw (cut H' B) := w'.ext el (fun a ea => by
      unfold cut
      rw [if_neg (o1.awB a ea), if_neg fun z => (List.mem_cons.mp z).elim (fun y => nDaw (by rw [← y]; exact ea.symm)) (o1.awB a ea)])
    exact k _ H' _ (e1.trans e') wB (.lst (cut_of hD' nB) (r'.ext w'.ne el)) q
theorem pts_to {X : Cx} {e : List Expr} {t t' : TT} (h : PTs X e t) (i : ∀ σ H R, t' σ H R → t σ H R) : PTs X e t' := ⟨fun pins s σ H Q I q => h.run pins s σ H Q I (i σ H Q q)⟩
theorem sts_nil : PTs X [] (tT X.K aw mYes) := pts_to pts_nil fun σ H R => by
  rintro ⟨G, B, ρ, Q, o, hm, k⟩
  exact k H true (.refl _ _) o.wld hm
theorem sts_one {e : Expr} (h : ST X aw e c) : PTs X [e] (tT X.K aw c) := pts_one h
/-- [elt for tg in iter if ..] -/
theorem se_lc (hc : X.calm = true) (hN : X.N.Nodup) (ok : BlkOk X.N X.env.scope scope own) (hi : SIc X aw tg iter it)
    (hg : ∀ (s : Shared) (H : Hp) (C : Addr) (cl : List (Str × Addr)) (fp : List Addr), SG (X.blk s H scope (compEnvC scope cl C X.env) fp) aw (own.map (·.2)) tg g) (ht : ∀ (s : Shared) (H : Hp) (C : Addr) (cl : List (Str × Addr)) (fp : List Addr), PTs (X.blk s H scope (compEnvC scope cl C X.env) fp) ifs (tT X.K aw c))
    (he : ∀ (s : Shared) (H : Hp) (C : Addr) (cl : List (Str × Addr)) (fp : List Addr), SE (X.blk s H scope (compEnvC scope cl C X.env) fp) aw elt m) (hs : ∀ x, foldedSetIterable iter X.env x = pure x := by intro _; rfl) :
    SE X aw (.ListComp elt [⟨tg, iter, ifs, 0⟩] scope pos) (eLc it (own.map (·.2)) g c m) := pe_to (pe_lc hc hN hi ok hg ht he hs) lc_reads
/-- name = [..] on one line -/
theorem ss_lc {i : Nat} {y : Str} {py spos : Pos} (hc : X.calm = true) (hN : X.N.Nodup) (ok : BlkOk X.N X.env.scope scope own) (hy : X.N[i]? = some y) (hyl : X.env.scope.names.lookup y = some .local)
    (hsw : swapsWith (.ListComp elt [⟨tg, iter, ifs, 0⟩] scope pos) (some (.Name y py)) spos.line X.env = pure true) (hi : SIc X aw tg iter it)
    (hg : ∀ (s : Shared) (H : Hp) (C : Addr) (cl : List (Str × Addr)) (fp : List Addr), SG (X.blk s H scope (compEnvC scope cl C X.env) fp) aw (own.map (·.2)) tg g) (ht : ∀ (s : Shared) (H : Hp) (C : Addr) (cl : List (Str × Addr)) (fp : List Addr), PTs (X.blk s H scope (compEnvC scope cl C X.env) fp) ifs (tT X.K aw c))
    (he : ∀ (s : Shared) (H : Hp) (C : Addr) (cl : List (Str × Addr)) (fp : List Addr), SE (X.blk s H scope (compEnvC scope cl C X.env) fp) aw elt m) (hs : ∀ x, foldedSetIterable iter X.env x = pure x := by intro _; rfl) :
    SS X aw (.Assign [.Name y py] (.ListComp elt [⟨tg, iter, ifs, 0⟩] scope pos) spos) (sAsg (eLc it (own.map (·.2)) g c m) (mgName i)) := ps_to (ps_setLc hc hN hy hyl hsw hi ok hg ht he hs) fun Dn σ H => by
  rintro ⟨G, B, ρ, P, o, hs, k1, k2, k3, k4⟩
  refine lc_reads (X := X) σ H _ ⟨G, B, ρ, _, o, hs, fun v H1 d e1 w1 r1 q1 => ?_⟩
  exact k1 _ H1 _ B ((o.grow e1 w1).set r1 i) (cut_ext e1) q1
end


/-! ### constants of the module -/
def Kst (K : PySem.W.Frag) (mg : Str → Option Value) (x : Str) (d : D) : Prop := ∃ v u, mg x = some u ∧ RelV v u ∧ ∀ aw H, Rp K aw H v d
theorem se_glob {X : Cx} {aw : Option Addr} {x : Str} {pos : Pos} {d : D} (h : Kst X.K X.mg x d) (hg : Gl X x) (hd : (x == ("__debug__" : Str)) = false := by decide) : SE X aw (.Name x pos) (eC d) := by
  obtain ⟨v, u, h1, h2, h3⟩ := h
  exact se_c (pe_glob hg h1 h2 hd) fun H => h3 aw H
theorem kst_pair {K : PySem.W.Frag} {mg : Str → Option Value} {x : Str} {c : Addr} {i j : Int} {t u : Tok} {dd : Option Addr} {n : Nat} {sl : Array (Option Value)} (hm : mg x = some (.ref c)) (hk : K.lookup c = some ⟨.type "tuple", dd, .seq #[.int i t, .int j u] n, sl⟩) : Kst K mg x (.tuple [.int i, .int j]) :=
  ⟨.ref c, _, hm, rfl, fun aw H => .tup (xs := [.int i, .int j]) (.inr ⟨_, _, _, hk, rfl, rfl, (show 2 ≤ sizeLine by decide), .cons ⟨t, rfl⟩ (.cons ⟨u, rfl⟩ .nil)⟩) (.cons (.int i) (.cons (.int j) .nil))⟩

/-! ### a def by its body -/
def env0 (nl : Nat) (ds : List D) : En := ds.map .va ++ List.replicate (nl - ds.length) .no
def bodyF (nl : Nat) (s : MS) : List D → M D := fun ds Q => s (env0 nl ds) { nx := fun _ => Q .none, rt := Q, bk := fun _ => False, ct := fun _ => False }
section
variable {P : Program} {w : PySem.World} {K : PySem.W.Frag} {mg : Str → Option Value} {base : Heap}
theorem ok_start {aw : Option Addr} {H : Hp} {B : List Addr} {vs : List V} {ds : List D} {N : List Str} (w : World aw (cut H B)) (hB : ∀ p ∈ B, ∃ xs, H p = some (.lst xs)) (r : RpA K aw (cut H B) vs ds) : Ok K aw ⟨H, B⟩ B (L2.start N vs) (env0 N.length ds) H := by
  have hl := r.length
  refine ⟨.refl _ _, w, fun _ h => h, hB, by simp [L2.start, env0, hl], fun i s hs => ?_, fun i j p as es h1 _ _ _ => ?_⟩
  · unfold env0 at hs
    unfold L2.start
    by_cases hi : i < ds.length
    · rw [List.getElem?_append_left (by simpa using hi), List.getElem?_map] at hs
      cases e : ds[i]? with
      | none => rw [e] at hs; cases hs
      | some d =>
        rw [e] at hs
        cases hs
        obtain ⟨v, hv, rv⟩ := r.get e
        refine ⟨v, ?_, rv⟩
        rw [List.getElem?_append_left (by simpa [hl] using hi), List.getElem?_map, hv]
        rfl
    · rw [List.getElem?_append_right (by simpa using hi), List.getElem?_replicate] at hs
      split at hs
      · cases hs; trivial
      · cases hs
  · exfalso
    unfold env0 at h1
    by_cases hi : i < ds.length
    · rw [List.getElem?_append_left (by simpa using hi), List.getElem?_map] at h1
      cases e : ds[i]? with
      | none => rw [e] at h1; cases h1
      | some d => rw [e] at h1; cases h1
    · rw [List.getElem?_append_right (by simpa using hi), List.getElem?_replicate] at h1
      split at h1 <;> cases h1
theorem df_of {x qual : Str} {st : Stmt} {f : Addr} {fd : FuncData} {N ps : List Str} {n k nl : Nat} {s : MS} (F : Fun K x qual st f fd) (S : FnScope N ps (defScope st)) (hn : ps.length = n) (hnl : N.length = nl) (gm : mg x = some (.ref f)) (b : Binds K fd ps [])
    (hb : ∀ (cdv : Value) (A : Around) (outer : List Env) (s0 : Shared) (H : Hp) (E : XK) (aw : Option Addr), Room k (A.deeper (envOfC qual (defScope st) s0.heap.objs.size f cdv)) → SSs (cxOf CX0 P w K mg base N qual (defScope st) f cdv A outer s0 H E).nox aw (defBody st) s) :
    Df P w K mg base x n (k + 1) (bodyF nl s) := by
  subst hn hnl
  refine ⟨f, fd, ps, rfl, gm, F.kp, b, F.ok S (fun vs H Q E h => ?_) (fun cdv A outer s0 H vs Q E hr h => ?_)⟩
  · obtain ⟨_, _, _, _, h, _⟩ := h
    exact h
  · obtain ⟨aw, B, ds, P', hl, wl, hB, r, hF, q⟩ := h
    refine ⟨_, hb cdv A outer s0 H E aw hr, ⟨H, B⟩, B, env0 N.length ds, _, ok_start wl hB r, hF, fun σ' H' ρ' B' o' e' q' => ?_, fun v H' d e' w' r' q' => q v H' d e' w' r' q', fun _ _ _ _ _ _ z => z.elim, fun _ _ _ _ _ _ z => z.elim⟩
    obtain ⟨w2, r2⟩ := ret_less o' (.non)
    exact q .non H' .none o'.ext w2 r2 q'
end


def fSubB : D → D → M D := fun x y Q => match x, y with
  | .bool a, .bool b => Q (.int ((if a = true then 1 else 0) - (if b = true then 1 else 0)))
  | _, _ => False
def intsOf : List D → Option (List Int)
  | [] => some []
  | .int b :: ds => (intsOf ds).map (b :: ·)
  | _ => none
/-- an int in a tuple of ints -/
def fInT (neg : Bool) : D → D → M D := fun x y Q => match x, y with
  | .int i, .tuple ds => match intsOf ds with
    | some js => Q (.bool (if neg then !(js.any fun j => j == i) else js.any fun j => j == i))
    | none => False
  | _, _ => False
section
variable {X : Cx} {K : PySem.W.Frag} {aw : Option Addr} {a b : Expr} {m n : En → M D} {pos : Pos}
theorem op_subB : OpR X (binaryOp .Sub) (fun x y H Q => ∃ i j, x = .bl i ∧ y = .bl j ∧ Q (.int ((if i = true then 1 else 0) - (if j = true then 1 else 0))) H) := by
  intro pins s σ H x y v u Q I rx ry h
  obtain ⟨i, k, rfl, rfl, q⟩ := h
  cases rx
  cases ry
  exact sub_bool ⟨.int _, H, I.tok _, ⟨_, rfl⟩, by cases i <;> cases k <;> exact q⟩
theorem ok_subB : OpOk K aw (fun x y H Q => ∃ i j, x = .bl i ∧ y = .bl j ∧ Q (.int ((if i = true then 1 else 0) - (if j = true then 1 else 0))) H) fSubB := by
  intro H B x y d e Q R w hB rx ry q k
  unfold fSubB at q
  split at q
  · cases rx
    cases ry
    exact ⟨_, _, rfl, rfl, k _ H _ (.refl _ _) w (.int _) q⟩
  · cases q
theorem se_subB (ha : SE X aw a m) (hb : SE X aw b n) : SE X aw (.BinOp a .Sub b pos) (eOp fSubB m n) := se_op op_subB ok_subB ha hb
theorem ints_rp {H : Hp} : ∀ {ds : List D} {bs : List Int} {xs : List V}, intsOf ds = some bs → RpA K aw H xs ds → xs = bs.map V.int
  | [], _, _, e, r => by cases r; cases e; rfl
  | .int b :: ds, bs, _, e, r => by
    unfold intsOf at e
    cases q : intsOf ds with
    | none => rw [q] at e; cases e
    | some cs =>
      rw [q] at e
      cases e
      cases r with
      | cons r0 rr =>
      cases r0
      rw [ints_rp q rr]
      rfl
  | .none :: _, _, _, e, _ => by cases e
  | .bool _ :: _, _, _, e, _ => by cases e
  | .str _ :: _, _, _, e, _ => by cases e
  | .list _ :: _, _, _, e, _ => by cases e
  | .tuple _ :: _, _, _, e, _ => by cases e
  | .dict _ :: _, _, _, e, _ => by cases e
theorem inV_ints (i : Int) : ∀ js : List Int, inV (.int i) (js.map V.int) = js.any fun j => j == i
  | [] => rfl
  | j :: js => by
    have h := inV_ints i js
    unfold inV at h ⊢
    rw [List.map_cons, List.any_cons, List.any_cons, h]
    rfl
theorem flat_ints : ∀ js : List Int, (js.map V.int).all flatV = true
  | [] => rfl
  | _ :: js => by rw [List.map_cons, List.all_cons, flat_ints js]; rfl
theorem ok_inT {neg : Bool} : OpOk K aw (rIn K neg) (fInT neg) := by
  intro H B x y d e Q R w hB rx ry q k
  unfold fInT at q
  split at q
  · rename_i i ds
    split at q
    · rename_i js hj
      cases rx
      cases ry with
      | tup h1 r1 =>
      have e := ints_rp hj r1
      subst e
      exact ⟨_, _, rfl, .inr (sqT_less h1), rfl, flat_ints js, by rw [inV_ints]; exact k _ H _ (.refl _ _) w (.bl _) q⟩
    · cases q
  · cases q
theorem se_inT (ha : SE X aw a m) (hb : SE X aw b n) (hm : behindInMarks .In b = false := by with_unfolding_all rfl) : SE X aw (.Compare a [.In] [b] pos) (eOp (fInT false) m n) := se_cmp op_in_seq ok_inT ha hb hm
theorem se_notInT (ha : SE X aw a m) (hb : SE X aw b n) (hm : behindInMarks .NotIn b = false := by with_unfolding_all rfl) : SE X aw (.Compare a [.NotIn] [b] pos) (eOp (fInT true) m n) := se_cmp op_notIn_seq ok_inT ha hb hm
theorem st_inT (ha : SE X aw a m) (hb : SE X aw b n) (hm : behindInMarks .In b = false := by with_unfolding_all rfl) : ST X aw (.Compare a [.In] [b] pos) (eT (eOp (fInT false) m n)) := st_op op_in_seq ok_inT ha hb hm
theorem st_notInT (ha : SE X aw a m) (hb : SE X aw b n) (hm : behindInMarks .NotIn b = false := by with_unfolding_all rfl) : ST X aw (.Compare a [.NotIn] [b] pos) (eT (eOp (fInT true) m n)) := st_op op_notIn_seq ok_inT ha hb hm
end

/-! ### a name of one's own: name = e -/
section
variable {X : Cx} {aw : Option Addr} {e : Expr} {m : En → M D} {pos : Pos} {i : Nat}
theorem ss_set {x : Str} {p : Pos} (hN : X.N.Nodup) (hi : X.N[i]? = some x) (hx : Loc X.env.scope x) (he : SE X aw e m) (hs : swapsWith e (some (.Name x p)) pos.line X.env = pure false := by rfl) (hf : X.fn x = true ∨ X.env.scope.names.lookup x = some .local := by first | exact .inl rfl | exact .inr rfl | assumption) : SS X aw (.Assign [.Name x p] e pos) (sAsg m (mgName i)) := ps_to (ps_set hN hi hx he hs hf) fun Dn σ H => by
  rintro ⟨G, B, ρ, P, o, hs, k1, k2, k3, k4⟩
  exact ⟨G, B, ρ, _, o, hs, fun v H1 d e1 w1 r1 q1 => k1 _ H1 _ B ((o.grow e1 w1).set r1 i) (cut_ext e1) q1⟩
/-- name op= e -/
def sAug (i : Nat) (f : D → D → M D) (m : En → M D) : MS := fun ρ P => match ρ[i]? with
  | some (.va x) => m ρ fun y => f x y fun z => P.nx (ρ.set i (.va z))
  | _ => False
theorem ss_aug {x : Str} {p : Pos} {op : Operator} {r : R2} {f : D → D → M D} (ho : OpR X (inplaceOp op) r) (h : OpOk X.K aw r f) (hN : X.N.Nodup) (hi : X.N[i]? = some x) (hx : Loc X.env.scope x) (he : SE X aw e m) (hf : X.fn x = true ∨ X.env.scope.names.lookup x = some .local := by first | exact .inl rfl | exact .inr rfl | assumption) :
    SS X aw (.AugAssign (.Name x p) op e pos) (sAug i f m) := ps_to (ps_aug (ti := r) hN hi hx he (fun pins s σ H x y v u Q I rx ry q => ho pins s σ H x y v u Q I rx ry q) hf) fun Dn σ H => by
  rintro ⟨G, B, ρ, P, o, hs, k1, k2, k3, k4⟩
  unfold sAug at hs
  split at hs
  · rename_i dx hd
    obtain ⟨v, e1, r1⟩ := o.get hd
    refine ⟨v, e1, G, B, ρ, _, o, hs, fun y H1 dy e2 w2 r2 q2 => ?_⟩
    have o1 := o.grow e2 w2
    exact h H1 B v y dx dy _ _ w2 o1.own (r1.ext o.wld.ne (cut_ext e2)) r2 q2 fun z H2 dz e3 w3 r3 q3 => k1 _ H2 _ B ((o1.grow e3 w3).set r3 i) (cut_ext (e2.trans e3)) q3
  · cases hs
end


/-! ### two names at once, the first a new own list -/
def sParOwn (i j : Nat) (m : En → M D) : MS := fun ρ P => m ρ fun d => i ≠ j ∧ P.nx ((ρ.set j (.va d)).set i (.ow []))
section
variable {X : Cx} {aw : Option Addr} {e : Expr} {m : En → M D} {pl : Pos} {st : Stmt} {i j : Nat}
theorem ss_parOwn (h : ∀ ta, PA X [.List [] pl, e] ta → PS X st (tPar i j ta)) (he : SE X aw e m) (hs : starEach [.List [] pl, e] X.env = (false, eval (.List [] pl) X.env) :: starEach [e] X.env := by rfl) (hs2 : starEach [e] X.env = (false, eval e X.env) :: starEach [] X.env := by rfl) : SS X aw st (sParOwn i j m) :=
  ps_to (h _ (pa_cons (pe_lst pa_nil) (pa_cons he pa_nil hs2) hs)) fun Dn σ H => by
    rintro ⟨G, B, ρ, P, o, hs, k1, k2, k3, k4⟩
    refine ⟨Nat.zero_le _, fun p hp => ?_⟩
    -- the list stands, in no slot yet
    have o0 := o.made hp (xs := []) (ds := []) .nil ρ.length
    have e0 : ρ.set ρ.length (Sl.ow []) = ρ := List.set_eq_of_length_le (Nat.le_refl _)
    have e1 : σ.set ρ.length (some (V.ref p)) = σ := List.set_eq_of_length_le (by rw [o.len]; exact Nat.le_refl _)
    rw [e0, e1] at o0
    refine ⟨G, p :: B, ρ, _, o0, hs, fun v H1 d e w r q => ⟨_, _, rfl, ?_⟩⟩
    obtain ⟨nij, q⟩ := q
    have o1 := (o0.grow e w).set r j
    have hl : H1 p = some (.lst []) := e.ap p _ fx_lst upd_same
    have ec : Ext aw (cut H B) (cut H1 (p :: B)) := by
      have := cut_ext (B := p :: B) e
      rw [cut_new hp] at this
      exact this
    have npB : p ∉ B := fun z => by
      obtain ⟨ys, h⟩ := o.own p z
      rw [hp] at h; cases h
    have npaw : some p ≠ aw := fun z => by
      obtain ⟨kvs, h⟩ := o.wld.ne p z.symm
      have := (cut_some h).1
      rw [hp] at this; cases this
    have h0 : G.H0 p = none := by
      cases q : G.H0 p with
      | none => rfl
      | some u => have := o.ext.ap p u (fx_ne npaw) q; rw [hp] at this; cases this
    have nc : p ∉ G.Bc := fun z => npB (o.sub p z)
    rw [List.set_comm _ _ nij]
    refine k1 _ H1 _ (p :: B) ⟨o1.ext, o1.wld, o1.sub, o1.own, by simp [o1.len], fun k s hk => ?_, fun k l q es fs h1 h2 h3 h4 => ?_⟩ ec q
    · by_cases ek : i = k
      · subst ek
        by_cases hi : i < (ρ.set j (Sl.va d)).length
        · rw [List.getElem?_set_self hi] at hk
          cases hk
          rw [List.getElem?_set_self (by rw [o1.len]; exact hi)]
          exact ⟨p, [], rfl, List.mem_cons_self, h0, nc, hl, .nil⟩
        · rw [List.getElem?_eq_none (by simpa using hi)] at hk; cases hk
      · rw [List.getElem?_set_ne ek] at hk
        rw [List.getElem?_set_ne ek]
        exact o1.env k s hk
    · have other : ∀ {n : Nat} {l : List D}, i ≠ n → (ρ.set j (Sl.va d))[n]? = some (Sl.ow l) → (σ.set j (some v))[n]? = some (some (V.ref p)) → False := fun {n l} hn a b => by
        obtain ⟨nj, a⟩ := set_ow (fun _ z => by cases z) a
        rw [List.getElem?_set_ne nj] at b
        obtain ⟨p', ys, e2, hp', _⟩ := o.getO a
        rw [b] at e2
        have e4 : p = p' := by injection e2 with h3; injection h3 with h3; injection h3
        exact npB (by rw [e4]; exact hp')
      by_cases ek : i = k
      · by_cases el : i = l
        · rw [← ek, ← el]
        · exfalso
          subst ek
          rw [List.getElem?_set_ne el] at h2 h4
          have hi : i < (σ.set j (some v)).length := by
            by_cases hi : i < (ρ.set j (Sl.va d)).length
            · rw [o1.len]; exact hi
            · rw [List.getElem?_eq_none (by simpa using hi)] at h1; cases h1
          rw [List.getElem?_set_self hi] at h3
          have e3 : p = q := by injection h3 with h3; injection h3 with h3; injection h3
          exact other el h2 (by rw [e3]; exact h4)
      · by_cases el : i = l
        · exfalso
          subst el
          rw [List.getElem?_set_ne ek] at h1 h3
          have hi : i < (σ.set j (some v)).length := by
            by_cases hi : i < (ρ.set j (Sl.va d)).length
            · rw [o1.len]; exact hi
            · rw [List.getElem?_eq_none (by simpa using hi)] at h2; cases h2
          rw [List.getElem?_set_self hi] at h4
          have e3 : p = q := by injection h4 with h3; injection h3 with h3; injection h3
          exact other ek h1 (by rw [e3]; exact h3)
        · rw [List.getElem?_set_ne ek] at h1 h3
          rw [List.getElem?_set_ne el] at h2 h4
          exact o1.apart k l q es fs h1 h2 h3 h4
theorem iop_mulW : OpR X (inplaceOp .Mult) (rI CMulW fun i j => .int (i * j)) := opI fun _ _ _ _ _ _ _ hc q => imul_int q hc.ok
end

/-! ### the draws -/
/-- any int from 0 on below a number -/
def F_next : List D → M D := fun ds Q => match ds with
  | [.dict [], .int m] => 0 < m ∧ ∀ k, 0 ≤ k → k < m → Q (.int k)
  | _ => False
theorem w_put (ld : Addr) (n m : Int) : putK [((.inr "draws" : Key), V.ref ld), (.inr "at", V.int n)] (.inr "at") (V.int m) = [(.inr "draws", .ref ld), (.inr "at", .int m)] := by
  have h : ¬ ((.inr "draws" : Key) = .inr "at") := by decide +kernel
  simp [putK, h]
theorem w_at (ld : Addr) (n : Int) : valV [((.inr "draws" : Key), V.ref ld), (.inr "at", V.int n)] (.inr "at") = some (V.int n) := by
  have h : ¬ ((.inr "draws" : Key) = .inr "at") := by decide +kernel
  rw [valV_neg h, valV_pos rfl]
theorem w_draws (ld : Addr) (n : Int) : valV [((.inr "draws" : Key), V.ref ld), (.inr "at", V.int n)] (.inr "draws") = some (V.ref ld) := valV_pos rfl
/-- the world behind one more draw -/
theorem world_step {a ld : Addr} {B : List Addr} {H : Hp} {n : Int} {ns : List Int} (h1 : cut H B a = some (.dK [(.inr "draws", .ref ld), (.inr "at", .int n)])) (h2 : cut H B ld = some (.lst (ns.map V.int))) (h0 : 0 ≤ n) (hl : ns.length ≤ 100000) :
    Ext (some a) H (upd H a (.dK [(.inr "draws", .ref ld), (.inr "at", .int (n + 1))])) ∧ World (some a) (cut (upd H a (.dK [(.inr "draws", .ref ld), (.inr "at", .int (n + 1))])) B) := by
  obtain ⟨a1, a2⟩ := cut_some h1
  obtain ⟨b1, b2⟩ := cut_some h2
  have ne : ld ≠ a := fun z => by rw [z, a1] at b1; cases b1
  refine ⟨⟨fun b o f h => ?_, fun x ex kvs _ => ?_⟩, fun x ex => ?_⟩
  · by_cases e : b = a
    · rw [e, a1] at h
      exact absurd (Option.some.inj h).symm (f (by rw [e]) _)
    · rw [upd_ne e]; exact h
  · cases ex
    exact ⟨_, upd_same⟩
  · cases ex
    exact ⟨ld, n + 1, ns, cut_of upd_same a2, cut_of (by rw [upd_ne ne]; exact b1) b2, by omega, hl⟩


/-! ### the law's own def -/
def tSE (K : PySem.W.Frag) (s : MS) : TS := fun Dn σ H => ∃ aw, tS K aw s Dn σ H
theorem sse {X : Cx} {sts : List Stmt} {s : MS} (h : ∀ aw, SSs X aw sts s) : PSs X sts (tSE X.K s) := ⟨fun pins st σ H D I q => by
  obtain ⟨aw, q⟩ := q
  exact (h aw).run pins st σ H D I q⟩
abbrev scr (ns : List Int) : D := .dict [(.none, .list (ns.map PyData.int))]
def spLaw (K : PySem.W.Frag) : Sp := fun vs H Q _ => ∃ (a : Addr) (ns : List Int), vs = [.ref a] ∧ ScL K H a (ns.map V.int) ∧ ns.length ≤ 63 ∧ ∀ H', Q (.bl true) H'
theorem scl_of {K : PySem.W.Frag} {H : Hp} {a : Addr} {xs : List V} (o : Only H) (h : SqL K H a xs) : ScL K H a xs := by
  rcases h with (h | ⟨u, h⟩) | h
  · rcases o a with e | ⟨u, ys, e⟩
    · rw [h] at e; cases e
    · rw [h] at e; cases e
  · exact .inl ⟨u, h⟩
  · exact .inr h
/-- the draws: ints, not too many -/
def IsDraws (d : D) : Prop := ∃ ms : List Int, d = .list (ms.map PyData.int) ∧ ms.length ≤ 100000
theorem rp_ints {K : PySem.W.Frag} {aw : Option Addr} {H : Hp} : ∀ {ms : List Int} {xs : List V}, RpA K aw H xs (ms.map PyData.int) → xs = ms.map V.int
  | [], _, r => by cases r; rfl
  | m :: ms, _, r => by
    cases r with
    | cons r0 rr =>
    cases r0
    rw [rp_ints rr]
    rfl
theorem merge_w (ld : Addr) : mergeK [] [((.inr "draws" : Key), V.ref ld), (.inr "at", V.int 0)] = [(.inr "draws", .ref ld), (.inr "at", .int 0)] := by
  have h : ¬ ((.inr "draws" : Key) = .inr "at") := by decide +kernel
  simp [mergeK, putK, h]
/-- the reading of: w = {"draws": .., "at": 0}, then the rest -/
theorem law_reads {K : PySem.W.Frag} {H : Hp} {a : Addr} {ns : List Int} {N : List Str} {m : En → M D} {s : MS} {Q : VK} (hN : 2 ≤ N.length) (hS : ScL K H a (ns.map V.int)) (hd : m (env0 N.length [scr ns]) IsDraws)
    (hs : s (env0 N.length [scr ns, .dict []]) { nx := fun _ => False, rt := fun d => d = .bool true, bk := fun _ => False, ct := fun _ => False }) (q : ∀ H', Q (.bl true) H') :
    tSeq (tAsg (tDisp [(tC (.str "draws"), tM K none m), (tC (.str "at"), tC (.int 0))]) (gName 1)) (tSE K s) { nx := fun _ H' => Q .non H', rt := Q } (L2.start N [.ref a]) H := by
  intro p hp
  have hr : RpA K none (cut (upd H p (.dK [])) []) [.ref a] [scr ns] := by
    rw [cut_nil]
    exact .cons (.scr (hS.ext (Ext.new (aw := none) hp))) .nil
  have o1 : Ok K none ⟨upd H p (.dK []), []⟩ [] (L2.start N [.ref a]) (env0 N.length [scr ns]) (upd H p (.dK [])) := ok_start (fun _ e => nomatch e) (fun _ z => by cases z) hr
  refine ⟨_, [], _, _, o1, hd, fun v H2 d e2 w2 r2 q2 => ?_⟩
  obtain ⟨ms, rfl, hl⟩ := q2
  rw [cut_nil] at r2
  cases r2 with
  | lst h2 rr =>
  rename_i ld xs
  have ex := rp_ints rr
  subst ex
  have hp2 : H2 p = some (.dK []) := e2.ap p _ (fun z => nomatch z) upd_same
  refine ⟨hp2, [(.inr "draws", .ref ld), (.inr "at", .int 0)], rfl, (show 2 ≤ 15 by decide), ?_⟩
  rw [merge_w]
  have ne : ld ≠ p := fun z => by rw [z, hp2] at h2; cases h2
  have hp3 : (upd H2 p (.dK [(.inr "draws", .ref ld), (.inr "at", .int 0)])) p = some (.dK [(.inr "draws", .ref ld), (.inr "at", .int 0)]) := upd_same
  have w3 : World (some p) (cut (upd H2 p (.dK [(.inr "draws", .ref ld), (.inr "at", .int 0)])) []) := by
    rw [cut_nil]
    intro x ex
    cases ex
    exact ⟨ld, 0, ms, hp3, by rw [upd_ne ne]; exact h2, Int.le_refl 0, hl⟩
  have hS3 : ScL K (upd H2 p (.dK [(.inr "draws", .ref ld), (.inr "at", .int 0)])) a (ns.map V.int) := by
    have := (hS.ext (Ext.new (aw := none) hp)).ext e2
    rcases this with ⟨o, h⟩ | h
    · exact .inl ⟨o, by rw [upd_ne fun z => by rw [z, hp2] at h; cases h]; exact h⟩
    · exact .inr h
  have r3 : RpA K (some p) (cut (upd H2 p (.dK [(.inr "draws", .ref ld), (.inr "at", .int 0)])) []) [.ref a, .ref p] [scr ns, .dict []] := by
    rw [cut_nil]
    exact .cons (.scr hS3) (.cons (.wld rfl hp3) .nil)
  have o3 := ok_start (N := N) w3 (fun _ z => by cases z) r3
  have es : (L2.start N [V.ref a]).set 1 (some (V.ref p)) = L2.start N [V.ref a, V.ref p] := by
    unfold L2.start
    obtain ⟨n, hn⟩ : ∃ n, N.length = n + 2 := ⟨N.length - 2, by omega⟩
    rw [hn]
    show (some (V.ref a) :: List.replicate (n + 2 - 1) none).set 1 (some (V.ref p)) = some (V.ref a) :: some (V.ref p) :: List.replicate (n + 2 - 2) none
    have e1 : n + 2 - 1 = n + 1 := by omega
    have e2 : n + 2 - 2 = n := by omega
    rw [e1, e2, List.replicate_succ]
    rfl
  show tSE K s _ ((L2.start N [V.ref a]).set 1 (some (V.ref p))) _
  rw [es]
  refine ⟨some p, ⟨_, []⟩, [], _, _, o3, hs, fun _ _ _ _ _ _ z => z.elim, fun v H' d _ _ r q' => ?_, fun _ _ _ _ _ _ z => z.elim, fun _ _ _ _ _ _ z => z.elim⟩
  subst q'
  cases r
  exact q H'


/-! ### sorted(xs) of data -/
theorem sorted_seqD {prog : Program} {w : PySem.World} {A : Around} {E : Value → Shared → Prop} {s : Shared} {β : Type} {vs : List Value} {bs : List β} {enc : β → PyData} {R : Value → β → Prop} {l : Addr} {T : String} {o : Obj} {n : Nat} {Q : Value → Shared → Prop}
    (hT : T = "list" ∨ T = "tuple") (ho : s.heap.get? l = some o) (hc : o.cls = .type T) (hd : o.data = .seq vs.toArray n)
    (e : PySem.W.EachIs R vs bs) (er : PySem.W.EachIs (fun v b => ∃ as, Reads s.heap v (enc b) as) vs bs) (hal : PySem.W.AllAlike (bs.map enc)) (hk : PySem.W.Sortable (bs.map enc)) (hL : bs.length ≤ sizeLine)
    (hu : ∀ b, b ∈ bs → A.units + 2 + (enc b).depth < cLine)
    (h : ∀ out h' ep p, PySem.W.EachIs R out (bs.mergeSort (PySem.W.dataLe false enc)) → s.heap.get? p = none → (∀ b o, s.heap.get? b = some o → h'.get? b = some o) → h'.get? p = some (seqObj "list" out.toArray ep) → Q (.ref p) { s with heap := h' }) :
    wpAny (model prog w) A (call (.builtin "sorted") [.ref l]) Q E s := by
  have hl : vs.length = bs.length := e.length
  refine Calls.call_function_entry kind_sorted plain_sorted entry_sorted (args_sorted1 _) ?_
  unfold Builtin.«sorted»
  refine wpAny_bind (m := checkCount "sorted" 1 1 _) (wpAny_pure ?_)
  refine wpAny_bind (wpAny_collect_seq l hT ho hc hd (fun h1 k1 => ?_) (by rw [List.size_toArray, hl]; exact hL))
  rw [List.toList_toArray]
  refine wpAny_bind (wpAny_newList ?_ (by rw [hl]; exact hL))
  have hp0 : s.heap.get? h1.objs.size = none := by
    cases q : s.heap.get? h1.objs.size with
    | none => rfl
    | some u => exact absurd (Heap.lt_size (k1 _ _ q)) (Nat.lt_irrefl _)
  have hoL : (h1.push (seqObj "list" vs.toArray 0)).get? h1.objs.size = some (seqObj "list" vs.toArray 0) := Heap.get?_push_size _ rfl
  have keep : ∀ b o, s.heap.get? b = some o → b ≠ h1.objs.size ∧ (h1.push (seqObj "list" vs.toArray 0)).get? b = some o := fun b o q =>
    ⟨Nat.ne_of_lt (Heap.lt_size (k1 b o q)), Heap.get?_push_of_some _ (k1 b o q)⟩
  have er' : PySem.W.EachIs (fun v b => ∃ as, Reads (PySem.W.sortingHeap (h1.push (seqObj "list" vs.toArray 0)) h1.objs.size vs) v (enc b) as) vs bs := er.mono fun _ _ ⟨as, r⟩ => ⟨as, PyProof.Rows.Reads.keeps (fun b o q => PySem.W.sortingHeap_old (keep b o q).1 (keep b o q).2) r⟩
  refine wpAny_bind (wpAny_holding (wpAny_call_entry slot_list_sort ⟨_, hoL, rfl⟩ entry_list_sort
    (PySem.W.list_sort_vals (s := { s with heap := h1.push (seqObj "list" vs.toArray 0) }) (κ := PySem.W.dataKind (PySem.W.sortingHeap (h1.push (seqObj "list" vs.toArray 0)) h1.objs.size vs) (bs.map enc)) hoL
      (PySem.W.SortsAt.data (s := { s with heap := PySem.W.sortingHeap (h1.push (seqObj "list" vs.toArray 0)) h1.objs.size vs }) (PySem.W.each_map (R := fun v d => ∃ as, Reads (PySem.W.sortingHeap (h1.push (seqObj "list" vs.toArray 0)) h1.objs.size vs) v d as) enc er') hal hk (PySem.W.bound_map hu)) (by rw [hl]; exact hL) ?_) (args_list_sort _)))
  refine ⟨.none, rfl, ?_⟩
  obtain ⟨c, hc2⟩ := sortedHeap_at (vs := vs) (out := (PySem.W.sortVals (PySem.W.dataKind (PySem.W.sortingHeap (h1.push (seqObj "list" vs.toArray 0)) h1.objs.size vs) (bs.map enc)) false vs vs).toArray) hoL
  refine wpAny_pure ⟨_, rfl, h _ _ c h1.objs.size (PySem.W.sortVals_data false e er' hal) hp0 (fun b u q => ?_) hc2⟩
  have hlt := Heap.lt_size (k1 b u q)
  show (sortedHeap (h1.push (seqObj "list" vs.toArray 0)) h1.objs.size vs _).get? b = some u
  rw [sortedHeap_old (Nat.ne_of_lt hlt) (by rw [size_push']; exact Nat.lt_succ_of_lt hlt)]
  exact (keep b u q).2

/-- sorted(xs) of tuples of one kind -/
structure okS (ds : List D) : Prop where
  alike : PySem.W.AllAlike ds
  tup : ∀ d ∈ ds, ∃ x r, d = .tuple (x :: r)
  deep : ∀ d ∈ ds, d.depth ≤ 60
  len : ds.length ≤ 100000
  flat : flatD.flatA ds = true
def fSorted : List D → M D := fun ds Q => match ds with
  | [.list xs] => okS xs ∧ Q (.list (xs.mergeSort (PySem.W.dataLe false id)))
  | [.tuple xs] => okS xs ∧ Q (.list (xs.mergeSort (PySem.W.dataLe false id)))
  | _ => False
def rSortD (K : PySem.W.Frag) : List V → Hp → VK → Prop := fun vs H Q => ∃ (a : Addr) (ds : List D) (xs : List V), vs = [.ref a] ∧ (SqL K H a xs ∨ SqT K H a xs) ∧ DpAll K H xs ds ∧ okS ds ∧
  ∀ (ps : List (V × D)) (p : Addr), ps.Perm (xs.zip ds) → ps.map (·.2) = ds.mergeSort (PySem.W.dataLe false id) → H p = none → Q (.ref p) (upd H p (.lst (ps.map (·.1))))
theorem each_of_dp {X : Cx} {pins : List (Addr × Obj)} {σ : L2.St} {H : Hp} {s : Shared} (I : Inv X pins σ H s) : ∀ {ds : List D} {xs : List V} {us : List Value}, DpAll X.K H xs ds → Vals xs us →
    PySem.W.EachIs (fun u (b : V × D) => RelV b.1 u ∧ Dp X.K H b.1 b.2) us (xs.zip ds)
  | [], _, _, h, r => by cases h; cases r; exact .nil
  | d :: ds, _, _, h, r => by
    cases h with
    | cons h1 h2 =>
    cases r with
    | cons r1 r2 => exact .cons ⟨r1, h1⟩ (each_of_dp I h2 r2)
theorem vals_of_each {K : PySem.W.Frag} {H : Hp} : ∀ {bs : List (V × D)} {us : List Value}, PySem.W.EachIs (fun u (b : V × D) => RelV b.1 u ∧ Dp K H b.1 b.2) us bs → Vals (bs.map (·.1)) us
  | [], _, h => by cases h; exact .nil
  | b :: bs, _, h => by
    cases h with
    | cons h1 h2 => exact .cons h1.1 (vals_of_each h2)
theorem dpAll_len {K : PySem.W.Frag} {H : Hp} : ∀ {ds : List D} {xs : List V}, DpAll K H xs ds → xs.length = ds.length
  | [], _, h => by cases h; rfl
  | d :: ds, _, h => by
    cases h with
    | cons h1 h2 => simp [dpAll_len h2]
theorem zip_snd {α β : Type} : ∀ {xs : List α} {ds : List β}, xs.length = ds.length → (xs.zip ds).map (·.2) = ds
  | [], [], _ => rfl
  | x :: xs, d :: ds, h => by simp at h; simp [zip_snd h]
  | [], _ :: _, h => by simp at h
  | _ :: _, [], h => by simp at h
theorem cr_sortD {X : Cx} {k : Nat} (hr : Room k X.A) : CallR X (.builtin "sorted") (rSortD X.K) := by
  intro pins s σ H vs us Q I r h
  obtain ⟨a, ds, xs, rfl, hs, hd, ok, q⟩ := h
  rw [Vals.ref1 r]
  have hu64 := room64 hr
  obtain ⟨T, o, n, its, hT, ho, hc, hdat, rv⟩ : ∃ (T : String) (o : Obj) (n : Nat) (its : List Value), (T = "list" ∨ T = "tuple") ∧ s.heap.get? a = some o ∧ o.cls = .type T ∧ o.data = .seq its.toArray n ∧ Vals xs its := by
    rcases hs with hs | hs
    · obtain ⟨its, rv, ⟨o, n, ho, hc, _, hdat⟩, _⟩ := I.list hs
      exact ⟨"list", o, n, its, .inl rfl, ho, hc, hdat, rv⟩
    · obtain ⟨its, rv, ⟨o, ho, hc, n, hdat⟩, _⟩ := I.tuple hs
      exact ⟨"tuple", o, n, its, .inr rfl, ho, hc, hdat, rv⟩
  have hz := zip_snd (dpAll_len hd)
  have hlen : (xs.zip ds).length = ds.length := by rw [List.length_zip, dpAll_len hd, Nat.min_self]
  have hmem : ∀ b ∈ xs.zip ds, b.2 ∈ ds := fun b hb => by
    rw [← hz]; exact List.mem_map_of_mem hb
  refine sorted_seqD (R := fun u (b : V × D) => RelV b.1 u ∧ Dp X.K H b.1 b.2) (enc := fun b : V × D => b.2) (bs := xs.zip ds) hT ho hc hdat (each_of_dp I hd rv) ((each_of_dp I hd rv).mono fun u b ⟨h1, h2⟩ => Dp.reads I b.2 b.1 u h2 h1)
    (by rw [hz]; exact ok.alike) (by rw [hz]; exact .inl ok.tup) (by rw [hlen]; exact le_line ok.len) (fun b hb => ?_) fun out h' ep p e2 hp hk hn => ?_
  · have := ok.deep b.2 (hmem b hb)
    omega
  · have hp0 : H p = none := I.hok.gone hp
    have hv := vals_of_each e2
    have hperm : ((xs.zip ds).mergeSort (PySem.W.dataLe false fun b => b.2)).Perm (xs.zip ds) := List.mergeSort_perm _ _
    have hlen2 : (((xs.zip ds).mergeSort (PySem.W.dataLe false fun b => b.2)).map (·.1)).length ≤ sizeLine := by rw [List.length_map, hperm.length_eq, hlen]; exact le_line ok.len
    refine ⟨.ref p, upd H p (.lst (((xs.zip ds).mergeSort (PySem.W.dataLe false fun b => b.2)).map (·.1))), I.laidN (t' := s.toks) hk hp hp0 ⟨hlen2, out, ep, hv, hn⟩, rfl, q _ p hperm ?_ hp0⟩
    have := PySem.W.sort_maps (r := PySem.W.dataLe false fun b : V × D => b.2) (s := PySem.W.dataLe false id) (fun b : V × D => b.2) (l := xs.zip ds) fun a _ b _ => rfl
    rw [this, hz]
section
variable {X : Cx} {K : PySem.W.Frag} {aw : Option Addr} {e a b : Expr} {es : List Expr} {m n : En → M D} {t : En → M (List D)} {p pos apos : Pos}
theorem rpA_of_zip {H : Hp} : ∀ {ds : List D} {xs : List V}, RpA K aw H xs ds → ∀ b ∈ xs.zip ds, Rp K aw H b.1 b.2
  | [], _, r, b, hb => by cases r; simp at hb
  | d :: ds, _, r, b, hb => by
    cases r with
    | cons r0 rr =>
    simp at hb
    rcases hb with rfl | hb
    · exact r0
    · exact rpA_of_zip rr b hb
theorem rpA_map {H : Hp} : ∀ {ps : List (V × D)}, (∀ b ∈ ps, Rp K aw H b.1 b.2) → RpA K aw H (ps.map (·.1)) (ps.map (·.2))
  | [], _ => .nil
  | b :: ps, h => .cons (h b List.mem_cons_self) (rpA_map fun c hc => h c (List.mem_cons_of_mem _ hc))
theorem dpAll_less {H : Hp} {B : List Addr} : ∀ {vs : List V} {ds : List D}, DpAll K (cut H B) vs ds → DpAll K H vs ds
  | _, _, .nil => .nil
  | _, _, .cons h r => .cons (dp_less h) (dpAll_less r)
theorem ok_sorted : ArgOk K aw (rSortD K) fSorted := by
  intro H B xs ds Q R w hB r q k
  unfold fSorted at q
  split at q
  · cases r with
    | cons r0 rr =>
    cases rr
    cases r0 with
    | lst h1 r1 =>
    refine ⟨_, _, _, rfl, .inl (.inl (.inl (cut_some h1).1)), dpAll_less (r1.dp q.1.flat), q.1, fun ps p hperm hps hp => ?_⟩
    refine k _ _ _ (.new hp) (w.fresh hp) (.lst (new_cut hp hB) (rpA_new w hp ?_)) q.2
    rw [← hps]
    exact rpA_map fun b hb => rpA_of_zip r1 b (hperm.mem_iff.mp hb)
  · cases r with
    | cons r0 rr =>
    cases rr
    cases r0 with
    | tup h1 r1 =>
    refine ⟨_, _, _, rfl, .inr (sqT_less h1), dpAll_less (r1.dp q.1.flat), q.1, fun ps p hperm hps hp => ?_⟩
    refine k _ _ _ (.new hp) (w.fresh hp) (.lst (new_cut hp hB) (rpA_new w hp ?_)) q.2
    rw [← hps]
    exact rpA_map fun b hb => rpA_of_zip r1 b (hperm.mem_iff.mp hb)
  · cases q
theorem se_sortedc {k : Nat} (hr : Room k X.A) (hg : Gl X "sorted") (hm : X.mg "sorted" = none) (ha : SA X aw (e :: es) t) (he : starEach (e :: es) X.env = (false, eval e X.env) :: starEach es X.env := by rfl) (hpl : (backTo pos (starEach es X.env)).any (·.1) = false := by rfl) : SE X aw (.Call (.Name "sorted" p) (e :: es) [] pos) (eCall fSorted t) :=
  se_callB (cr_sortD hr) ok_sorted PyProof.Rows.boot_sorted (by decide) (by decide) hg hm ha he hpl

/-! ### xs.count(i) -/
def eCount (m : En → M D) (t : En → M (List D)) : En → M D := fun ρ Q => m ρ fun d => match d with
  | .list xs => t ρ fun ds => match ds with
    | [.int i] => match intsOf xs with
      | some ns => Q (.int (ns.count i : Nat))
      | none => False
    | _ => False
  | _ => False
theorem se_count (ha : SE X aw a m) (hb : SA X aw (e :: es) t) (hbase : attributeBase a "count" X.env (eval a X.env) = eval a X.env := by rfl)
    (hfew : ((backTo pos (starEach (e :: es) X.env)).all (fun x => !x.1) && (backToKw pos (keywordEach [] X.env)).all (fun x => x.1.isSome)
      && decide ((e :: es).length + ([] : List Keyword).length + (if ([] : List Keyword).isEmpty then 0 else 1) < 30)) = true := by rfl)
    (hline : (apos.endLine == pos.line) = true := by rfl) (hs : starEach (e :: es) X.env = (false, eval e X.env) :: starEach es X.env := by rfl) (hplain : (backTo pos (starEach es X.env)).any (·.1) = false := by rfl) :
    SE X aw (.Call (.Attribute a "count" apos) (e :: es) [] pos) (eCount m t) := pe_to (pe_bm PySem.F.plainAttrs_list PySem.F.slot_list_count PySem.F.type_list_count mt_lcount ha hb hbase hfew hline hs hplain) fun σ H R => by
  rintro ⟨G, B, ρ, Q, o, hm, k⟩
  refine ⟨G, B, ρ, _, o, hm, fun v H1 d e1 w1 r1 q1 => ?_⟩
  split at q1
  · rename_i xs
    have r1' := r1
    cases r1' with
    | lst h0 r0 =>
    refine ⟨.inl ⟨rfl, _, .inl (.inl (cut_some h0).1)⟩, G, B, ρ, _, o.grow e1 w1, q1, fun vs H2 ds e2 w2 r2 q2 => ?_⟩
    split at q2
    · split at q2
      · rename_i hi
        have r3 := r1.ext w1.ne (cut_ext e2)
        cases r3 with
        | lst h1 rr =>
        cases r2 with
        | cons ra rn =>
        cases rn
        cases ra
        have := ints_rp hi rr
        subst this
        exact ⟨_, _, _, rfl, rfl, .inl (.inl (cut_some h1).1), k _ H2 _ (e1.trans e2) w2 (.int _) q2⟩
      · cases q2
    · cases q2
  · cases q1

/-! ### a text some times -/
def mulStr (x : Str) (n : Int) : Str := if n < 1 then Str.empty else if (n == 1 || x.length == 0) = true then x else ⟨(List.replicate n.toNat x.cps).foldl (· ++ ·) #[]⟩
def fMulS : D → D → M D := fun x y Q => match x, y with
  | .str z, .int i => -1000 < i ∧ i ≤ 1000 ∧ z.length ≤ 1000 ∧ Q (.str (mulStr z i))
  | _, _ => False
theorem fold_size (cs : Array Nat) : ∀ (n : Nat) (acc : Array Nat), ((List.replicate n cs).foldl (· ++ ·) acc).size = acc.size + n * cs.size
  | 0, acc => by simp
  | n + 1, acc => by
    rw [List.replicate_succ, List.foldl_cons, fold_size cs n, Array.size_append, Nat.succ_mul]
    omega
theorem op_mulS : OpR X (binaryOp .Mult) (fun x y H Q => ∃ z i, x = .str z ∧ y = .int i ∧ -1000 < i ∧ i ≤ 1000 ∧ z.length ≤ 1000 ∧ Q (.str (mulStr z i)) H) := by
  intro pins s σ H x y v u Q I rx ry h
  obtain ⟨z, i, rfl, rfl, h1, h2, h3, q⟩ := h
  obtain ⟨t, rfl⟩ := rx
  obtain ⟨t2, rfl⟩ := ry
  refine PySem.P.mul_str (by
    rw [decide_eq_false (by omega), decide_eq_false (by omega)]
    rfl) (fun a b => ?_) (fun a b => ?_) ?_
  · have hi : 0 < i := by omega
    have h4 : (1000 : Int) ≤ (2 ^ 63 - 1) / i := Int.le_ediv_of_mul_le hi (by omega)
    have h5 : (z.length : Int) ≤ 1000 := by omega
    omega
  · unfold Builtin.Str.tooLong
    refine decide_eq_false ?_
    rw [sizeLine_eq]
    have h4 : i.toNat ≤ 1000 := by omega
    have h5 : z.length * i.toNat ≤ 1000 * 1000 := Nat.mul_le_mul h3 h4
    omega
  · unfold mulStr at q
    split
    · rw [if_pos (by assumption)] at q
      exact ⟨by decide, .str _, H, I.tok _, ⟨_, rfl⟩, q⟩
    · rw [if_neg (by assumption)] at q
      split
      · rw [if_pos (by assumption)] at q
        exact ⟨.str _, H, I, ⟨_, rfl⟩, q⟩
      · rw [if_neg (by assumption)] at q
        refine ⟨?_, .str _, H, I.tok _, ⟨_, rfl⟩, q⟩
        show (List.foldl (· ++ ·) #[] _).size ≤ sizeLine
        rw [fold_size, sizeLine_eq]
        have h4 : i.toNat ≤ 1000 := by omega
        have h5 : i.toNat * z.cps.size ≤ 1000 * 1000 := Nat.mul_le_mul h4 h3
        simp
        omega
theorem ok_mulS : OpOk K aw (fun x y H Q => ∃ z i, x = .str z ∧ y = .int i ∧ -1000 < i ∧ i ≤ 1000 ∧ z.length ≤ 1000 ∧ Q (.str (mulStr z i)) H) fMulS := by
  intro H B x y d e Q R w hB rx ry q k
  unfold fMulS at q
  split at q
  · cases rx
    cases ry
    exact ⟨_, _, rfl, rfl, q.1, q.2.1, q.2.2.1, k _ H _ (.refl _ _) w (.str _) q.2.2.2⟩
  · cases q
theorem se_mulS (ha : SE X aw a m) (hb : SE X aw b n) : SE X aw (.BinOp a .Mult b pos) (eOp fMulS m n) := se_op op_mulS ok_mulS ha hb

/-! ### in a tuple of data -/
def fInTD (neg : Bool) : D → D → M D := fun x y Q => match y with
  | .tuple ds => okD x ∧ okD (.tuple ds) ∧ Q (.bool (if neg then !(ds.any fun z => PyData.eqv z x) else ds.any fun z => PyData.eqv z x))
  | _ => False
def rInTD (K : PySem.W.Frag) (neg : Bool) : R2 := fun x y H Q => ∃ d ds, Dp K H x d ∧ Dp K H y (.tuple ds) ∧ SeqAt.shaped d = true ∧ SeqAt.shaped (.tuple ds) = true ∧ Q (.bl (if neg then !(ds.any fun z => PyData.eqv z d) else ds.any fun z => PyData.eqv z d)) H
theorem op_inTD {neg : Bool} (hu : X.A.units + 65 < cLine) : OpR X (compareOp (if neg = true then .NotIn else .In)) (rInTD X.K neg) := by
  intro pins s σ H x y v u Q I rx ry h
  obtain ⟨d, ds, hd, he, sd, se, q⟩ := h
  obtain ⟨as, r1⟩ := Dp.reads I d x v hd rx
  obtain ⟨bs, r2⟩ := Dp.reads I (.tuple ds) y u he ry
  cases neg with
  | false => exact SeqAt.in_tuple_reads r2 r1 (SeqAt.canLay_of_shaped se) (SeqAt.canLay_of_shaped sd) (room_in_shaped sd hu) ⟨.bl _, H, I, rfl, q⟩
  | true => exact SeqAt.notIn_tuple_reads r2 r1 (SeqAt.canLay_of_shaped se) (SeqAt.canLay_of_shaped sd) (room_in_shaped sd hu) ⟨.bl _, H, I, rfl, q⟩
theorem ok_inTD {neg : Bool} : OpOk K aw (rInTD K neg) (fInTD neg) := by
  intro H B x y d e Q R w _ rx ry q k
  unfold fInTD at q
  split at q
  · rename_i ds
    exact ⟨d, ds, dp_less (rx.dp q.1.1), dp_less (ry.dp q.2.1.1), q.1.2, q.2.1.2, k _ H _ (.refl _ _) w (.bl _) q.2.2⟩
  · cases q
theorem se_inTD {k : Nat} (hr : Room k X.A) (ha : SE X aw a m) (hb : SE X aw b n) (hm : behindInMarks .In b = false := by with_unfolding_all rfl) : SE X aw (.Compare a [.In] [b] pos) (eOp (fInTD false) m n) := se_cmp (op_inTD (neg := false) (room65 hr)) ok_inTD ha hb hm
theorem se_notInTD {k : Nat} (hr : Room k X.A) (ha : SE X aw a m) (hb : SE X aw b n) (hm : behindInMarks .NotIn b = false := by with_unfolding_all rfl) : SE X aw (.Compare a [.NotIn] [b] pos) (eOp (fInTD true) m n) := se_cmp (op_inTD (neg := true) (room65 hr)) ok_inTD ha hb hm
theorem st_inTD {k : Nat} (hr : Room k X.A) (ha : SE X aw a m) (hb : SE X aw b n) (hm : behindInMarks .In b = false := by with_unfolding_all rfl) : ST X aw (.Compare a [.In] [b] pos) (eT (eOp (fInTD false) m n)) := st_op (op_inTD (neg := false) (room65 hr)) ok_inTD ha hb hm
theorem st_notInTD {k : Nat} (hr : Room k X.A) (ha : SE X aw a m) (hb : SE X aw b n) (hm : behindInMarks .NotIn b = false := by with_unfolding_all rfl) : ST X aw (.Compare a [.NotIn] [b] pos) (eT (eOp (fInTD true) m n)) := st_op (op_inTD (neg := true) (room65 hr)) ok_inTD ha hb hm
end


/-! ### what the top has written -/
/-- the def x, written out -/
def DefAt (K : PySem.W.Frag) (x : Str) (st : Stmt) : Prop := ∃ (f : Addr) (oc : Value) (od : Option Addr) (osl : Array (Option Value)) (kV doc pm : Value) (an : Option Addr) (cdv ct : Value),
  PySem.W.nsIn K mainGlobals x = some (some (.ref f)) ∧ K.lookup f = some ⟨oc, od, .func (PySem.W.fnOf x x (defArgs st) (defBody st) (defScope st) .none kV doc pm an cdv ct), osl⟩ ∧
  PySem.W.codeIn K cdv x = true ∧ PySem.W.keepIn K (.ref f) = true
theorem defAt {K : PySem.W.Frag} {x : Str} {st : Stmt} {f : Addr} {oc : Value} {od : Option Addr} {osl : Array (Option Value)} {kV doc pm : Value} {an : Option Addr} {cdv ct : Value}
    (a : PySem.W.nsIn K mainGlobals x = some (some (.ref f))) (l : K.lookup f = some ⟨oc, od, .func (PySem.W.fnOf x x (defArgs st) (defBody st) (defScope st) .none kV doc pm an cdv ct), osl⟩)
    (c : PySem.W.codeIn K cdv x = true) (k : PySem.W.keepIn K (.ref f) = true) : DefAt K x st := ⟨_, _, _, _, _, _, _, _, _, _, a, l, c, k⟩
/-- it is there, and can be called -/
def Has (K : PySem.W.Frag) (mg : Str → Option Value) (x : Str) (st : Stmt) : Prop := ∃ f fd, Fun K x x st f fd ∧ mg x = some (.ref f)
theorem DefAt.has {K : PySem.W.Frag} {h : Heap} {mg : Str → Option Value} {x : Str} {st : Stmt} (X : K.In h) (G : h.Ns mainGlobals mg) (d : DefAt K x st) : Has K mg x st := by
  obtain ⟨f, _, _, _, _, _, _, _, _, _, a, l, c, k⟩ := d
  exact ⟨f, _, fun_mk (st := st) l c k, PySem.W.mg_of X G a⟩
/-- a pair of ints, written out -/
def CstAt (K : PySem.W.Frag) (x : Str) (i j : Int) : Prop := ∃ (c : Addr) (t u : Tok) (dd : Option Addr) (n : Nat) (sl : Array (Option Value)), PySem.W.nsIn K mainGlobals x = some (some (.ref c)) ∧ K.lookup c = some ⟨.type "tuple", dd, .seq #[.int i t, .int j u] n, sl⟩
theorem cstAt {K : PySem.W.Frag} {x : Str} {i j : Int} {c : Addr} {t u : Tok} {dd : Option Addr} {n : Nat} {sl : Array (Option Value)} (a : PySem.W.nsIn K mainGlobals x = some (some (.ref c)))
    (l : K.lookup c = some ⟨.type "tuple", dd, .seq #[.int i t, .int j u] n, sl⟩) : CstAt K x i j := ⟨c, t, u, dd, n, sl, a, l⟩


/-! ### one word of a meaning at a time: what is to be shown for it -/
section
variable {s t u : MS} {ρ ρ' : En} {nx bk ct : En → Prop} {rt : D → Prop} {m n : En → M D} {c c' : En → M Bool} {g : MG} {gs : MGs} {b : MS} {d e : D} {ds es r : List D} {Q : D → Prop} {QB : Bool → Prop} {QL : List D → Prop} {QE : En → Prop} {QO : Option Int → Prop}
  {tl : En → M (List D)} {it : En → M (List D)} {F : List D → M D} {f2 : D → D → M D} {f1 : D → M D} {i j l k : Nat} {x y : Int} {bb : Bool} {A B : Prop} {P : Po} {z : Str} {lo hi : En → M (Option Int)}
theorem w_body (h : env0 k ds = ρ) (q : s ρ ⟨fun _ => Q .none, Q, fun _ => False, fun _ => False⟩) : bodyF k s ds Q := by subst h; exact q
theorem w_seq (q : s ρ ⟨fun ρ' => t ρ' ⟨nx, rt, bk, ct⟩, rt, bk, ct⟩) : sSeq s t ρ ⟨nx, rt, bk, ct⟩ := q
theorem w_next (q : nx ρ) : sNext ρ ⟨nx, rt, bk, ct⟩ := q
theorem w_break (q : bk ρ) : sBreak ρ ⟨nx, rt, bk, ct⟩ := q
theorem w_pnx (q : nx ρ) : Po.nx ⟨nx, rt, bk, ct⟩ ρ := q
theorem w_pbk (q : bk ρ) : Po.bk ⟨nx, rt, bk, ct⟩ ρ := q
theorem w_pct (q : ct ρ) : Po.ct ⟨nx, rt, bk, ct⟩ ρ := q
theorem w_prt (q : rt d) : Po.rt ⟨nx, rt, bk, ct⟩ d := q
theorem w_ret (q : m ρ rt) : sRet m ρ ⟨nx, rt, bk, ct⟩ := q
theorem w_asg (q : m ρ fun d => g d ρ nx) : sAsg m g ρ ⟨nx, rt, bk, ct⟩ := q
theorem w_if (q : c ρ fun b => if b = true then s ρ P else t ρ P) : sIf c s t ρ P := q
theorem w_par (h : (ρ.set i (.va d)).set j (.va e) = ρ') (q : nx ρ') : (match [d, e] with | [a, b] => nx ((ρ.set i (.va a)).set j (.va b)) | _ => False) := by subst h; exact q
def kPar (i j : Nat) (ρ : En) (nx : En → Prop) : List D → Prop
  | [a, b] => nx ((ρ.set i (.va a)).set j (.va b))
  | _ => False
theorem w_sPar (q : tl ρ (kPar i j ρ nx)) : sPar i j tl ρ ⟨nx, rt, bk, ct⟩ := by
  unfold sPar
  refine cast ?_ q
  congr 1
theorem w_kPar (h : (ρ.set i (.va d)).set j (.va e) = ρ') (q : nx ρ') : kPar i j ρ nx [d, e] := by subst h; exact q
def kPar3 (i j l : Nat) (ρ : En) (nx : En → Prop) : List D → Prop
  | [a, b, c] => nx (((ρ.set i (.va a)).set j (.va b)).set l (.va c))
  | _ => False
theorem w_sPar3 (q : tl ρ (kPar3 i j l ρ nx)) : sPar3 i j l tl ρ ⟨nx, rt, bk, ct⟩ := by
  unfold sPar3
  refine cast ?_ q
  congr 1
theorem w_kPar3 {d3 : D} (h : ((ρ.set i (.va d)).set j (.va e)).set l (.va d3) = ρ') (q : nx ρ') : kPar3 i j l ρ nx [d, e, d3] := by subst h; exact q
theorem w_for (q : it ρ fun ds => forW g b ds ρ P) : sFor it g b ρ P := q
theorem w_forC (q : g d ρ fun ρ1 => b ρ1 ⟨fun ρ2 => forW g b ds ρ2 ⟨nx, rt, bk, ct⟩, rt, nx, fun ρ2 => forW g b ds ρ2 ⟨nx, rt, bk, ct⟩⟩) : forW g b (d :: ds) ρ ⟨nx, rt, bk, ct⟩ := q
theorem w_forN (q : nx ρ) : forW g b [] ρ ⟨nx, rt, bk, ct⟩ := q
theorem w_own (q : tl ρ fun ds => ds.length ≤ 100000 ∧ nx (ρ.set i (.ow ds))) : sOwn i tl ρ ⟨nx, rt, bk, ct⟩ := q
theorem w_nxset (h : ρ.set i v = ρ') (q : QE ρ') : QE (ρ.set i v) := by subst h; exact q
theorem w_env {ρ0 : En} (h : ρ0 = ρ') (q : QE ρ') : QE ρ0 := by subst h; exact q
theorem w_freeze (h : ρ[i]? = some (.ow ds)) (h2 : ρ.set i (.va (.list ds)) = ρ') (q : s ρ' P) : sFreeze i s ρ P := by
  unfold sFreeze; rw [h]; subst h2; exact q
def kApp (i : Nat) (ds : List D) (ρ : En) (nx : En → Prop) : List D → Prop
  | [d] => ds.length < 100000 ∧ nx (ρ.set i (.ow (ds ++ [d])))
  | _ => False
theorem w_app (h : ρ[i]? = some (.ow ds)) (q : tl ρ (kApp i ds ρ nx)) : sApp i tl ρ ⟨nx, rt, bk, ct⟩ := by
  unfold sApp; rw [h]
  refine cast ?_ q
  congr 1
theorem w_kApp (hl : ds.length < 100000) (h : ρ.set i (.ow (ds ++ [d])) = ρ') (q : nx ρ') : kApp i ds ρ nx [d] := by subst h; exact ⟨hl, q⟩
def kIns (i : Nat) (ds : List D) (ρ : En) (nx : En → Prop) : List D → Prop
  | [.int n, d] => ds.length < 100000 ∧ 0 ≤ n ∧ n ≤ 100000 ∧ nx (ρ.set i (.ow (ds.take n.toNat ++ [d] ++ ds.drop n.toNat)))
  | _ => False
theorem w_ins (h : ρ[i]? = some (.ow ds)) (q : tl ρ (kIns i ds ρ nx)) : sIns i tl ρ ⟨nx, rt, bk, ct⟩ := by
  unfold sIns; rw [h]
  refine cast ?_ q
  congr 1
theorem w_aug (h : ρ[i]? = some (.va d)) (q : m ρ fun y => f2 d y fun z => nx (ρ.set i (.va z))) : sAug i f2 m ρ ⟨nx, rt, bk, ct⟩ := by
  unfold sAug; rw [h]; exact q
theorem w_itO (h : ρ[i]? = some (.ow ds)) (q : QL ds) : itO i ρ QL := by unfold itO; rw [h]; exact q
theorem w_var (h : ρ[i]? = some (.va d)) (q : Q d) : eVar i ρ Q := by unfold eVar; rw [h]; exact q
theorem w_c (q : Q d) : eC d ρ Q := q
theorem w_op (q : m ρ fun x => n ρ fun y => f2 x y Q) : eOp f2 m n ρ Q := q
theorem w_un (q : m ρ fun x => f1 x Q) : eUn f1 m ρ Q := q
def kT (Q : Bool → Prop) : D → Prop
  | .bool b => Q b
  | _ => False
theorem w_t (q : m ρ (kT QB)) : eT m ρ QB := q
theorem w_kT (q : QB bb) : kT QB (.bool bb) := q
theorem w_mAnd (q : c ρ fun b => if b = true then c' ρ QB else QB false) : mAnd c c' ρ QB := q
theorem w_mOr (q : c ρ fun b => if b = true then QB true else c' ρ QB) : mOr c c' ρ QB := q
theorem w_mNot (q : c ρ fun b => QB (!b)) : mNot c ρ QB := q
theorem w_yes (q : QB true) : mYes ρ QB := q
def kAnd (n : En → M D) (ρ : En) (Q : D → Prop) : D → Prop
  | .bool b => if b = true then n ρ Q else Q (.bool false)
  | _ => False
theorem w_eAnd (q : m ρ (kAnd n ρ Q)) : eAnd m n ρ Q := q
theorem w_kAnd (q : if bb = true then n ρ Q else Q (.bool false)) : kAnd n ρ Q (.bool bb) := q
def kOr (n : En → M D) (ρ : En) (Q : D → Prop) : D → Prop
  | .bool b => if b = true then Q (.bool true) else n ρ Q
  | _ => False
theorem w_eOr (q : m ρ (kOr n ρ Q)) : eOr m n ρ Q := q
theorem w_kOr (q : if bb = true then Q (.bool true) else n ρ Q) : kOr n ρ Q (.bool bb) := q
def kNot (Q : D → Prop) : D → Prop
  | .bool b => Q (.bool (!b))
  | _ => False
theorem w_eNot (q : m ρ (kNot Q)) : eNot m ρ Q := q
theorem w_kNot (q : Q (.bool (!bb))) : kNot Q (.bool bb) := q
theorem w_eIf (q : c ρ fun b => if b = true then m ρ Q else n ρ Q) : eIf c m n ρ Q := q
theorem w_nil (q : QL []) : aNil ρ QL := q
theorem w_cons (q : m ρ fun d => tl ρ fun ds => QL (d :: ds)) : aCons m tl ρ QL := q
theorem w_tup (q : tl ρ fun ds => ds.length ≤ 100000 ∧ Q (.tuple ds)) : eTup tl ρ Q := q
theorem w_lst (q : tl ρ fun ds => ds.length ≤ 100000 ∧ Q (.list ds)) : eLst tl ρ Q := q
theorem w_call (q : tl ρ fun ds => F ds Q) : eCall F tl ρ Q := q
theorem w_callN (q : tl ρ fun ds => ds.length = k ∧ F ds Q) : eCallN k F tl ρ Q := q
theorem w_mgName (h : ρ.set i (.va d) = ρ') (q : QE ρ') : mgName i d ρ QE := by subst h; exact q
theorem w_mgTup (h : ds.length = k) (q : gs ds ρ QE) : mgTup k gs (.tuple ds) ρ QE := ⟨h, q⟩
theorem w_mgLst (h : ds.length = k) (q : gs ds ρ QE) : mgLst k gs (.list ds) ρ QE := ⟨h, q⟩
theorem w_mgCons (q : g d ρ fun ρ' => gs r ρ' QE) : mgCons g gs (d :: r) ρ QE := q
theorem w_mgNil (q : QE ρ) : mgNil [] ρ QE := ⟨rfl, q⟩
def kItL (Q : List D → Prop) : D → Prop
  | .list ds => Q ds
  | _ => False
theorem w_itL (q : m ρ (kItL QL)) : itL m ρ QL := q
theorem w_kItL (q : QL ds) : kItL QL (.list ds) := q
def kItT (Q : List D → Prop) : D → Prop
  | .tuple ds => Q ds
  | _ => False
theorem w_itT (q : m ρ (kItT QL)) : itT m ρ QL := q
theorem w_kItT (q : QL ds) : kItT QL (.tuple ds) := q
def kR1 (Q : List D → Prop) : List D → Prop
  | [.int b] => b ≤ 100000 ∧ -100000 ≤ b ∧ Q (rngD 0 b.toNat)
  | _ => False
theorem w_itR1 (q : tl ρ (kR1 QL)) : itR1 tl ρ QL := by
  unfold itR1
  refine cast ?_ q
  congr 1
theorem w_kR1 (h1 : x ≤ 100000) (h2 : -100000 ≤ x) (q : QL (rngD 0 x.toNat)) : kR1 QL [.int x] := ⟨h1, h2, q⟩
theorem w_lc (q : it ρ fun ds => ds.length < 100000 ∧ lcW g c m (wipeE ρ is) ds [] fun out => Q (.list out)) : eLc it is g c m ρ Q := q
theorem w_lcC (q : g d ρ fun ρ1 => c ρ1 fun b => if b = true then m ρ1 fun y => lcW g c m ρ ds (es ++ [y]) QL else lcW g c m ρ ds es QL) : lcW g c m ρ (d :: ds) es QL := q
theorem w_lcN (q : QL es) : lcW g c m ρ [] es QL := q
theorem w_lcN' (h : es = ds) (q : QL ds) : lcW g c m ρ [] es QL := by subst h; exact q
theorem w_all {bs : List Bool} {b0 : Bool} (h : boolsOf ds = some bs) (h2 : bs.all id = b0) (q : Q (.bool b0)) : fAll [.list ds] Q := by
  show (match boolsOf ds with | some bs => Q (.bool (bs.all id)) | none => False)
  rw [h]; subst h2; exact q
theorem w_oNone (q : QO none) : oNone ρ QO := q
def kO (Q : Option Int → Prop) : D → Prop
  | .int i => Q (some i)
  | _ => False
theorem w_oSome (q : m ρ (kO QO)) : oSome m ρ QO := q
theorem w_kO (q : QO (some x)) : kO QO (.int x) := q
theorem w_eSl (q : m ρ fun d => lo ρ fun l => hi ρ fun h => fSl d l h Q) : eSl m lo hi ρ Q := q
theorem w_fSlS {l h : Option Int} (hz : z.length ≤ 100000) (q : Q (.str (cutS z l h))) : fSl (.str z) l h Q := ⟨hz, q⟩
theorem w_fSlL {l h : Option Int} (q : Q (.list (cutD ds l h))) : fSl (.list ds) l h Q := q
theorem w_fSlT {l h : Option Int} (q : Q (.tuple (cutD ds l h))) : fSl (.tuple ds) l h Q := q
theorem w_add (q : Q (.int (x + y))) : fAdd (.int x) (.int y) Q := ⟨trivial, q⟩
theorem w_sub (q : Q (.int (x - y))) : fSub (.int x) (.int y) Q := ⟨trivial, q⟩
theorem w_mul (h : CMulW x y) (q : Q (.int (x * y))) : fMul (.int x) (.int y) Q := ⟨h, q⟩
theorem w_div (h : CDv x y) (q : Q (.int (x.fdiv y))) : fDiv (.int x) (.int y) Q := ⟨h, q⟩
theorem w_mod (h : y ≠ 0) (q : Q (.int (x.fmod y))) : fMod (.int x) (.int y) Q := ⟨h, q⟩
theorem w_pow (h : CPow x y) (q : Q (.int (x ^ y.toNat))) : fPow (.int x) (.int y) Q := ⟨h, q⟩
theorem w_lt (q : Q (.bool (decide (x < y)))) : fLt (.int x) (.int y) Q := ⟨trivial, q⟩
theorem w_le (q : Q (.bool (decide (x ≤ y)))) : fLe (.int x) (.int y) Q := ⟨trivial, q⟩
theorem w_gt (q : Q (.bool (decide (y < x)))) : fGt (.int x) (.int y) Q := ⟨trivial, q⟩
theorem w_ge (q : Q (.bool (decide (y ≤ x)))) : fGe (.int x) (.int y) Q := ⟨trivial, q⟩
theorem w_eq (h1 : okD d) (h2 : okD e) (q : Q (.bool (PyData.eqv d e))) : fEq d e Q := ⟨h1, h2, q⟩
theorem w_ne (h1 : okD d) (h2 : okD e) (q : Q (.bool (!PyData.eqv d e))) : fNe d e Q := ⟨h1, h2, q⟩
theorem w_ixT (h : atI ds x = some d) (q : Q d) : fIx (.tuple ds) (.int x) Q := by
  show (match atI ds x with | some d => Q d | none => False)
  rw [h]; exact q
theorem w_ixL (h : atI ds x = some d) (q : Q d) : fIx (.list ds) (.int x) Q := by
  show (match atI ds x with | some d => Q d | none => False)
  rw [h]; exact q
theorem w_neg (q : Q (.int (-x))) : fNeg (.int x) Q := q
theorem w_subB {b2 : Bool} (q : Q (.int ((if bb = true then 1 else 0) - (if b2 = true then 1 else 0)))) : fSubB (.bool bb) (.bool b2) Q := q
theorem w_lenL (q : Q (.int ds.length)) : fLen [.list ds] Q := q
theorem w_lenT (q : Q (.int ds.length)) : fLen [.tuple ds] Q := q
theorem w_lenLn (h : ((ds.length : Nat) : Int) = x) (q : Q (.int x)) : fLen [.list ds] Q := by subst h; exact q
theorem w_lenTn (h : ((ds.length : Nat) : Int) = x) (q : Q (.int x)) : fLen [.tuple ds] Q := by subst h; exact q
theorem w_lenS (h : z.length ≤ 100000) (q : Q (.int z.length)) : fLen [.str z] Q := ⟨h, q⟩
theorem w_abs (q : Q (.int (if x < 0 then -x else x))) : fAbs [.int x] Q := q
theorem w_intc (q : Q (.int x)) : fInt [.int x] Q := q
theorem w_tupL (q : Q (.tuple ds)) : fTuple [.list ds] Q := q
theorem w_tupT (q : Q (.tuple ds)) : fTuple [.tuple ds] Q := q
theorem w_lisL (q : Q (.list ds)) : fList [.list ds] Q := q
theorem w_lisT (q : Q (.list ds)) : fList [.tuple ds] Q := q
theorem w_isNn (q : Q (.bool true)) : fIsN .none .none Q := ⟨rfl, q⟩
theorem w_isNt (q : Q (.bool false)) : fIsN (.tuple ds) .none Q := ⟨rfl, q⟩
theorem w_isNi (q : Q (.bool false)) : fIsN (.int x) .none Q := ⟨rfl, q⟩
theorem w_notNn (q : Q (.bool false)) : fNotN .none .none Q := ⟨rfl, q⟩
theorem w_notNt (q : Q (.bool true)) : fNotN (.tuple ds) .none Q := ⟨rfl, q⟩
theorem w_notNi (q : Q (.bool true)) : fNotN (.int x) .none Q := ⟨rfl, q⟩
theorem w_isB {b2 : Bool} (q : Q (.bool (decide (bb = b2)))) : fIsB (.bool bb) (.bool b2) Q := q
theorem w_notB {b2 : Bool} (q : Q (.bool (!decide (bb = b2)))) : fNotB (.bool bb) (.bool b2) Q := q
theorem w_catL (h : ds.length + es.length ≤ 100000) (q : Q (.list (ds ++ es))) : fCatL (.list ds) (.list es) Q := ⟨h, q⟩
theorem w_catS {z2 : Str} (h : z.length + z2.length ≤ 100000) (q : Q (.str (z ++ z2))) : fCatS (.str z) (.str z2) Q := ⟨h, q⟩
theorem w_isi {T a : String} (h : tyD d = some a) (q : Q (.bool (isD a T))) : fIsi T d Q := by
  unfold fIsi; rw [h]; exact q
theorem w_iteT (h : bb = true) (q : A) : if bb = true then A else B := by rw [if_pos h]; exact q
theorem w_iteF (h : bb = false) (q : B) : if bb = true then A else B := by rw [if_neg (by rw [h]; decide)]; exact q
theorem w_and (h : A) (q : B) : A ∧ B := ⟨h, q⟩
end


/-! ### one step, found by its word -/
class Stp (A : Prop) (B : outParam Prop) : Prop where
  h : B → A
class SetR (ρ : En) (i : Nat) (s : Sl) (ρ' : outParam En) : Prop where
  e : ρ.set i s = ρ'
class LkR (ρ : En) (i : Nat) (s : outParam Sl) : Prop where
  e : ρ[i]? = some s
class WipR (ρ : En) (is : List Nat) (ρ' : outParam En) : Prop where
  e : wipeE ρ is = ρ'
class EnvR (k : Nat) (ds : List D) (ρ : outParam En) : Prop where
  e : env0 k ds = ρ
class AppR {α : Type} (xs : List α) (y : α) (zs : outParam (List α)) : Prop where
  e : xs ++ [y] = zs
class ListR {α : Type} (xs : List α) (zs : outParam (List α)) : Prop where
  e : xs = zs
class Shrt {α : Type} (xs : List α) (n : Nat) : Prop where
  e : xs.length ≤ n
class LnR {α : Type} (xs : List α) (n : Nat) : Prop where
  e : xs.length = n
class AtR (xs : List D) (i : Int) (d : outParam D) : Prop where
  e : atI xs i = some d
class AllR (xs : List D) (b : outParam Bool) : Prop where
  e : ∃ bs, boolsOf xs = some bs ∧ bs.all id = b
class IsiR (T : String) (d : D) (b : outParam Bool) : Prop where
  e : ∃ a, tyD d = some a ∧ isD a T = b
section
variable {a : Sl} {ρ ρ' ρ1 : En} {i : Nat} {s : Sl} {is : List Nat} {k n : Nat} {d : D} {ds : List D}
instance : SetR (a :: ρ) 0 s (s :: ρ) := ⟨rfl⟩
instance [h : SetR ρ i s ρ'] : SetR (a :: ρ) (i + 1) s (a :: ρ') := ⟨by rw [List.set_cons_succ, h.e]⟩
instance : LkR (a :: ρ) 0 a := ⟨rfl⟩
instance [h : LkR ρ i s] : LkR (a :: ρ) (i + 1) s := ⟨by rw [List.getElem?_cons_succ, h.e]⟩
instance : WipR ρ [] ρ := ⟨rfl⟩
instance [h : WipR ρ is ρ1] [h2 : SetR ρ1 i .no ρ'] : WipR ρ (i :: is) ρ' := ⟨by show (wipeE ρ is).set i .no = ρ'; rw [h.e, h2.e]⟩
instance : EnvR 0 [] [] := ⟨rfl⟩
instance [h : EnvR k [] ρ] : EnvR (k + 1) [] (.no :: ρ) := ⟨by
  have e := h.e
  unfold env0 at *
  simp only [List.map_nil, List.nil_append, List.length_nil, Nat.sub_zero, List.replicate_succ] at *
  rw [e]⟩
instance [h : EnvR k ds ρ] : EnvR (k + 1) (d :: ds) (.va d :: ρ) := ⟨by
  have e := h.e
  unfold env0 at *
  simp only [List.map_cons, List.cons_append, List.length_cons, Nat.add_sub_add_right] at *
  rw [e]⟩
end
section
variable {α : Type} {x y : α} {xs ys zs : List α} {n : Nat}
instance : AppR ([] : List α) y [y] := ⟨rfl⟩
instance [h : AppR xs y zs] : AppR (x :: xs) y (x :: zs) := ⟨by rw [List.cons_append, h.e]⟩
instance : ListR ([] : List α) [] := ⟨rfl⟩
instance [h : ListR xs ys] [h2 : AppR ys y zs] : ListR (xs ++ [y]) zs := ⟨by rw [h.e, h2.e]⟩
instance : Shrt ([] : List α) n := ⟨Nat.zero_le _⟩
instance [h : Shrt xs n] : Shrt (x :: xs) (n + 1) := ⟨Nat.succ_le_succ h.e⟩
instance : LnR ([] : List α) 0 := ⟨rfl⟩
instance [h : LnR xs n] : LnR (x :: xs) (n + 1) := ⟨congrArg (· + 1) h.e⟩
end
section
variable {a b c d e f g h i j : D} {ds : List D} {bb : Bool}
instance : AtR (a :: ds) 0 a := ⟨by
  have e : ixN (a :: ds).length 0 = some 0 := by
    unfold ixN
    rw [if_pos (by omega), if_pos (by simp)]
    rfl
  unfold atI
  rw [e]
  rfl⟩
theorem at_suc {n : Nat} {xs : List D} {d : D} (h : atI xs (n : Int) = some d) : atI (a :: xs) ((n : Int) + 1) = some d := by
  unfold atI ixN at *
  rw [if_pos (by omega)] at *
  by_cases z : (n : Int).toNat < xs.length
  · rw [if_pos (by omega)] at h
    rw [if_pos (by rw [List.length_cons]; omega)]
    rw [show ((n : Int) + 1).toNat = (n : Int).toNat + 1 by omega]
    exact h
  · rw [if_neg (by omega)] at h
    cases h
instance [h : AtR ds 0 d] : AtR (a :: ds) 1 d := ⟨at_suc (n := 0) h.e⟩
instance [h : AtR ds 1 d] : AtR (a :: ds) 2 d := ⟨at_suc (n := 1) h.e⟩
instance [h : AtR ds 2 d] : AtR (a :: ds) 3 d := ⟨at_suc (n := 2) h.e⟩
instance [h : AtR ds 3 d] : AtR (a :: ds) 4 d := ⟨at_suc (n := 3) h.e⟩
instance [h : AtR ds 4 d] : AtR (a :: ds) 5 d := ⟨at_suc (n := 4) h.e⟩
instance [h : AtR ds 5 d] : AtR (a :: ds) 6 d := ⟨at_suc (n := 5) h.e⟩
instance [h : AtR ds 6 d] : AtR (a :: ds) 7 d := ⟨at_suc (n := 6) h.e⟩
instance [h : AtR ds 7 d] : AtR (a :: ds) 8 d := ⟨at_suc (n := 7) h.e⟩
instance [h : AtR ds 8 d] : AtR (a :: ds) 9 d := ⟨at_suc (n := 8) h.e⟩
instance : AllR [] true := ⟨[], rfl, rfl⟩
instance [h : AllR ds bb] : AllR (.bool true :: ds) bb := ⟨by
  obtain ⟨bs, e, q⟩ := h.e
  exact ⟨true :: bs, by unfold boolsOf; rw [e]; rfl, by rw [List.all_cons, q]; rfl⟩⟩
instance [h : AllR ds bb] : AllR (.bool false :: ds) false := ⟨by
  obtain ⟨bs, e, q⟩ := h.e
  exact ⟨false :: bs, by unfold boolsOf; rw [e]; rfl, by rw [List.all_cons]; rfl⟩⟩
end
section
variable {x : Int} {b : Bool} {z : Str} {ds : List D}
instance : IsiR "int" .none false := ⟨_, rfl, by decide⟩
instance : IsiR "int" (.bool b) true := ⟨_, rfl, by decide⟩
instance : IsiR "int" (.int x) true := ⟨_, rfl, by decide⟩
instance : IsiR "int" (.str z) false := ⟨_, rfl, by decide⟩
instance : IsiR "int" (.list ds) false := ⟨_, rfl, by decide⟩
instance : IsiR "int" (.tuple ds) false := ⟨_, rfl, by decide⟩
instance : IsiR "bool" .none false := ⟨_, rfl, by decide⟩
instance : IsiR "bool" (.bool b) true := ⟨_, rfl, by decide⟩
instance : IsiR "bool" (.int x) false := ⟨_, rfl, by decide⟩
instance : IsiR "bool" (.str z) false := ⟨_, rfl, by decide⟩
instance : IsiR "bool" (.list ds) false := ⟨_, rfl, by decide⟩
instance : IsiR "bool" (.tuple ds) false := ⟨_, rfl, by decide⟩
instance : IsiR "str" .none false := ⟨_, rfl, by decide⟩
instance : IsiR "str" (.bool b) false := ⟨_, rfl, by decide⟩
instance : IsiR "str" (.int x) false := ⟨_, rfl, by decide⟩
instance : IsiR "str" (.str z) true := ⟨_, rfl, by decide⟩
instance : IsiR "str" (.list ds) false := ⟨_, rfl, by decide⟩
instance : IsiR "str" (.tuple ds) false := ⟨_, rfl, by decide⟩
instance : IsiR "tuple" .none false := ⟨_, rfl, by decide⟩
instance : IsiR "tuple" (.bool b) false := ⟨_, rfl, by decide⟩
instance : IsiR "tuple" (.int x) false := ⟨_, rfl, by decide⟩
instance : IsiR "tuple" (.str z) false := ⟨_, rfl, by decide⟩
instance : IsiR "tuple" (.list ds) false := ⟨_, rfl, by decide⟩
instance : IsiR "tuple" (.tuple ds) true := ⟨_, rfl, by decide⟩
instance : IsiR "list" .none false := ⟨_, rfl, by decide⟩
instance : IsiR "list" (.bool b) false := ⟨_, rfl, by decide⟩
instance : IsiR "list" (.int x) false := ⟨_, rfl, by decide⟩
instance : IsiR "list" (.str z) false := ⟨_, rfl, by decide⟩
instance : IsiR "list" (.list ds) true := ⟨_, rfl, by decide⟩
instance : IsiR "list" (.tuple ds) false := ⟨_, rfl, by decide⟩
instance : IsiR "dict" .none false := ⟨_, rfl, by decide⟩
instance : IsiR "dict" (.bool b) false := ⟨_, rfl, by decide⟩
instance : IsiR "dict" (.int x) false := ⟨_, rfl, by decide⟩
instance : IsiR "dict" (.str z) false := ⟨_, rfl, by decide⟩
instance : IsiR "dict" (.list ds) false := ⟨_, rfl, by decide⟩
instance : IsiR "dict" (.tuple ds) false := ⟨_, rfl, by decide⟩
end
section
variable {s t u : MS} {ρ ρ' ρ1 ρ2 ρ3 : En} {nx bk ct : En → Prop} {rt : D → Prop} {m n : En → M D} {c c' : En → M Bool} {g : MG} {gs : MGs} {b : MS} {d e d3 : D} {ds es r : List D} {Q : D → Prop} {QB : Bool → Prop} {QL : List D → Prop} {QE : En → Prop} {QO : Option Int → Prop}
  {tl : En → M (List D)} {it : En → M (List D)} {F : List D → M D} {f2 : D → D → M D} {f1 : D → M D} {i j l k : Nat} {is : List Nat} {x y : Int} {bb b2 : Bool} {A B : Prop} {P : Po} {z z2 : Str} {lo hi : En → M (Option Int)} {lo1 hi1 : Option Int} {T : String}
def kOwn (i : Nat) (ρ : En) (nx : En → Prop) (ds : List D) : Prop := ds.length ≤ 100000 ∧ nx (ρ.set i (.ow ds))
theorem w_kOwn (hl : ds.length ≤ 100000) (h : ρ.set i (.ow ds) = ρ') (q : nx ρ') : kOwn i ρ nx ds := ⟨hl, by rw [h]; exact q⟩
def kAug (i : Nat) (ρ : En) (nx : En → Prop) (d : D) : Prop := nx (ρ.set i (.va d))
instance [h : EnvR k ds ρ] : Stp (bodyF k s ds Q) (s ρ ⟨fun _ => Q .none, Q, fun _ => False, fun _ => False⟩) := ⟨fun q => w_body h.e q⟩
instance : Stp (sSeq s t ρ ⟨nx, rt, bk, ct⟩) (s ρ ⟨fun ρ2 => t ρ2 ⟨nx, rt, bk, ct⟩, rt, bk, ct⟩) := ⟨w_seq⟩
instance : Stp (sNext ρ ⟨nx, rt, bk, ct⟩) (nx ρ) := ⟨w_next⟩
instance : Stp (sBreak ρ ⟨nx, rt, bk, ct⟩) (bk ρ) := ⟨w_break⟩
instance : Stp (sCont ρ ⟨nx, rt, bk, ct⟩) (ct ρ) := ⟨fun q => q⟩
instance : Stp (sRet m ρ ⟨nx, rt, bk, ct⟩) (m ρ rt) := ⟨w_ret⟩
instance : Stp (sAsg m g ρ ⟨nx, rt, bk, ct⟩) (m ρ fun d => g d ρ nx) := ⟨w_asg⟩
instance : Stp (sIf c s t ρ P) (c ρ fun b => if b = true then s ρ P else t ρ P) := ⟨w_if⟩
instance : Stp (sPar i j tl ρ ⟨nx, rt, bk, ct⟩) (tl ρ (kPar i j ρ nx)) := ⟨w_sPar⟩
instance [h : SetR ρ i (.va d) ρ1] [h2 : SetR ρ1 j (.va e) ρ2] : Stp (kPar i j ρ nx [d, e]) (nx ρ2) := ⟨fun q => w_kPar (by rw [h.e, h2.e]) q⟩
instance : Stp (sPar3 i j l tl ρ ⟨nx, rt, bk, ct⟩) (tl ρ (kPar3 i j l ρ nx)) := ⟨w_sPar3⟩
instance [h : SetR ρ i (.va d) ρ1] [h2 : SetR ρ1 j (.va e) ρ2] [h3 : SetR ρ2 l (.va d3) ρ3] : Stp (kPar3 i j l ρ nx [d, e, d3]) (nx ρ3) := ⟨fun q => w_kPar3 (by rw [h.e, h2.e, h3.e]) q⟩
instance : Stp (sFor it g b ρ P) (it ρ fun ds => forW g b ds ρ P) := ⟨w_for⟩
instance : Stp (forW g b (d :: ds) ρ ⟨nx, rt, bk, ct⟩) (g d ρ fun ρ1 => b ρ1 ⟨fun ρ2 => forW g b ds ρ2 ⟨nx, rt, bk, ct⟩, rt, nx, fun ρ2 => forW g b ds ρ2 ⟨nx, rt, bk, ct⟩⟩) := ⟨w_forC⟩
instance : Stp (forW g b [] ρ ⟨nx, rt, bk, ct⟩) (nx ρ) := ⟨w_forN⟩
instance : Stp (sOwn i tl ρ ⟨nx, rt, bk, ct⟩) (tl ρ (kOwn i ρ nx)) := ⟨w_own⟩
instance [hl : Shrt ds 100000] [h : SetR ρ i (.ow ds) ρ1] : Stp (kOwn i ρ nx ds) (nx ρ1) := ⟨fun q => w_kOwn hl.e h.e q⟩
instance [h : LkR ρ i (.ow ds)] [h2 : SetR ρ i (.va (.list ds)) ρ1] : Stp (sFreeze i s ρ P) (s ρ1 P) := ⟨fun q => w_freeze h.e h2.e q⟩
instance [h : LkR ρ i (.ow ds)] : Stp (sApp i tl ρ ⟨nx, rt, bk, ct⟩) (tl ρ (kApp i ds ρ nx)) := ⟨w_app h.e⟩
instance [hl : Shrt ds 99999] [h0 : AppR ds d es] [h : SetR ρ i (.ow es) ρ1] : Stp (kApp i ds ρ nx [d]) (nx ρ1) := ⟨fun q => w_kApp (Nat.lt_succ_of_le hl.e) (by rw [h0.e, h.e]) q⟩
instance [h : LkR ρ i (.ow ds)] : Stp (sIns i tl ρ ⟨nx, rt, bk, ct⟩) (tl ρ (kIns i ds ρ nx)) := ⟨w_ins h.e⟩
instance [h : LkR ρ i (.va d)] : Stp (sAug i f2 m ρ ⟨nx, rt, bk, ct⟩) (m ρ fun y => f2 d y (kAug i ρ nx)) := ⟨fun q => w_aug h.e q⟩
instance [h : SetR ρ i (.va d) ρ1] : Stp (kAug i ρ nx d) (nx ρ1) := ⟨fun q => by unfold kAug; rw [h.e]; exact q⟩
instance [h : LkR ρ i (.ow ds)] : Stp (itO i ρ QL) (QL ds) := ⟨w_itO h.e⟩
instance [h : LkR ρ i (.va d)] : Stp (eVar i ρ Q) (Q d) := ⟨w_var h.e⟩
instance : Stp (eC d ρ Q) (Q d) := ⟨w_c⟩
instance : Stp (eOp f2 m n ρ Q) (m ρ fun x => n ρ fun y => f2 x y Q) := ⟨w_op⟩
instance : Stp (eUn f1 m ρ Q) (m ρ fun x => f1 x Q) := ⟨w_un⟩
instance : Stp (eT m ρ QB) (m ρ (kT QB)) := ⟨w_t⟩
instance : Stp (kT QB (.bool bb)) (QB bb) := ⟨w_kT⟩
instance : Stp (mAnd c c' ρ QB) (c ρ fun b => if b = true then c' ρ QB else QB false) := ⟨w_mAnd⟩
instance : Stp (mOr c c' ρ QB) (c ρ fun b => if b = true then QB true else c' ρ QB) := ⟨w_mOr⟩
instance : Stp (mNot c ρ QB) (c ρ fun b => QB (!b)) := ⟨w_mNot⟩
instance : Stp (mYes ρ QB) (QB true) := ⟨w_yes⟩
instance : Stp (eAnd m n ρ Q) (m ρ (kAnd n ρ Q)) := ⟨w_eAnd⟩
instance : Stp (kAnd n ρ Q (.bool bb)) (if bb = true then n ρ Q else Q (.bool false)) := ⟨w_kAnd⟩
instance : Stp (eOr m n ρ Q) (m ρ (kOr n ρ Q)) := ⟨w_eOr⟩
instance : Stp (kOr n ρ Q (.bool bb)) (if bb = true then Q (.bool true) else n ρ Q) := ⟨w_kOr⟩
instance : Stp (eNot m ρ Q) (m ρ (kNot Q)) := ⟨w_eNot⟩
instance : Stp (kNot Q (.bool bb)) (Q (.bool (!bb))) := ⟨w_kNot⟩
instance : Stp (eIf c m n ρ Q) (c ρ fun b => if b = true then m ρ Q else n ρ Q) := ⟨w_eIf⟩
instance : Stp (aNil ρ QL) (QL []) := ⟨w_nil⟩
instance : Stp (aCons m tl ρ QL) (m ρ fun d => tl ρ fun ds => QL (d :: ds)) := ⟨w_cons⟩
instance : Stp (eTup tl ρ Q) (tl ρ fun ds => ds.length ≤ 100000 ∧ Q (.tuple ds)) := ⟨w_tup⟩
instance : Stp (eLst tl ρ Q) (tl ρ fun ds => ds.length ≤ 100000 ∧ Q (.list ds)) := ⟨w_lst⟩
instance : Stp (eCall F tl ρ Q) (tl ρ fun ds => F ds Q) := ⟨w_call⟩
instance : Stp (eCallN k F tl ρ Q) (tl ρ fun ds => ds.length = k ∧ F ds Q) := ⟨w_callN⟩
instance [h : SetR ρ i (.va d) ρ1] : Stp (mgName i d ρ QE) (QE ρ1) := ⟨w_mgName h.e⟩
instance [h : LnR ds k] : Stp (mgTup k gs (.tuple ds) ρ QE) (gs ds ρ QE) := ⟨w_mgTup h.e⟩
instance [h : LnR ds k] : Stp (mgLst k gs (.list ds) ρ QE) (gs ds ρ QE) := ⟨w_mgLst h.e⟩
instance : Stp (mgCons g gs (d :: r) ρ QE) (g d ρ fun ρ2 => gs r ρ2 QE) := ⟨w_mgCons⟩
instance : Stp (mgNil [] ρ QE) (QE ρ) := ⟨w_mgNil⟩
instance : Stp (itL m ρ QL) (m ρ (kItL QL)) := ⟨w_itL⟩
instance : Stp (kItL QL (.list ds)) (QL ds) := ⟨w_kItL⟩
instance : Stp (itT m ρ QL) (m ρ (kItT QL)) := ⟨w_itT⟩
instance : Stp (kItT QL (.tuple ds)) (QL ds) := ⟨w_kItT⟩
instance : Stp (itR1 tl ρ QL) (tl ρ (kR1 QL)) := ⟨w_itR1⟩
instance [h : WipR ρ is ρ1] : Stp (eLc it is g c m ρ Q) (it ρ fun ds => ds.length < 100000 ∧ lcW g c m ρ1 ds [] fun out => Q (.list out)) := ⟨fun q => w_lc (by rw [h.e]; exact q)⟩
instance : Stp (lcW g c m ρ (d :: ds) es QL) (g d ρ fun ρ1 => c ρ1 fun b => if b = true then m ρ1 fun y => lcW g c m ρ ds (es ++ [y]) QL else lcW g c m ρ ds es QL) := ⟨w_lcC⟩
instance [h : ListR es ds] : Stp (lcW g c m ρ [] es QL) (QL ds) := ⟨fun q => w_lcN (by rw [h.e]; exact q)⟩
instance : Stp (oNone ρ QO) (QO none) := ⟨w_oNone⟩
instance : Stp (oSome m ρ QO) (m ρ (kO QO)) := ⟨w_oSome⟩
instance : Stp (kO QO (.int x)) (QO (some x)) := ⟨w_kO⟩
instance : Stp (eSl m lo hi ρ Q) (m ρ fun d => lo ρ fun l => hi ρ fun h => fSl d l h Q) := ⟨w_eSl⟩
instance : Stp (fSl (.list ds) lo1 hi1 Q) (Q (.list (cutD ds lo1 hi1))) := ⟨w_fSlL⟩
instance : Stp (fSl (.tuple ds) lo1 hi1 Q) (Q (.tuple (cutD ds lo1 hi1))) := ⟨w_fSlT⟩
instance : Stp (fAdd (.int x) (.int y) Q) (Q (.int (x + y))) := ⟨w_add⟩
instance : Stp (fSub (.int x) (.int y) Q) (Q (.int (x - y))) := ⟨w_sub⟩
instance : Stp (fLt (.int x) (.int y) Q) (Q (.bool (decide (x < y)))) := ⟨w_lt⟩
instance : Stp (fLe (.int x) (.int y) Q) (Q (.bool (decide (x ≤ y)))) := ⟨w_le⟩
instance : Stp (fGt (.int x) (.int y) Q) (Q (.bool (decide (y < x)))) := ⟨w_gt⟩
instance : Stp (fGe (.int x) (.int y) Q) (Q (.bool (decide (y ≤ x)))) := ⟨w_ge⟩
instance : Stp (fNeg (.int x) Q) (Q (.int (-x))) := ⟨w_neg⟩
instance : Stp (fSubB (.bool bb) (.bool b2) Q) (Q (.int ((if bb = true then 1 else 0) - (if b2 = true then 1 else 0)))) := ⟨w_subB⟩
instance : Stp (fAbs [.int x] Q) (Q (.int (if x < 0 then -x else x))) := ⟨w_abs⟩
instance : Stp (fInt [.int x] Q) (Q (.int x)) := ⟨w_intc⟩
instance : Stp (fTuple [.list ds] Q) (Q (.tuple ds)) := ⟨w_tupL⟩
instance : Stp (fTuple [.tuple ds] Q) (Q (.tuple ds)) := ⟨w_tupT⟩
instance : Stp (fList [.list ds] Q) (Q (.list ds)) := ⟨w_lisL⟩
instance : Stp (fList [.tuple ds] Q) (Q (.list ds)) := ⟨w_lisT⟩
instance : Stp (fIsN .none .none Q) (Q (.bool true)) := ⟨w_isNn⟩
instance : Stp (fIsN (.tuple ds) .none Q) (Q (.bool false)) := ⟨w_isNt⟩
instance : Stp (fIsN (.int x) .none Q) (Q (.bool false)) := ⟨w_isNi⟩
instance : Stp (fNotN .none .none Q) (Q (.bool false)) := ⟨w_notNn⟩
instance : Stp (fNotN (.tuple ds) .none Q) (Q (.bool true)) := ⟨w_notNt⟩
instance : Stp (fNotN (.int x) .none Q) (Q (.bool true)) := ⟨w_notNi⟩
instance : Stp (fIsB (.bool bb) (.bool b2) Q) (Q (.bool (decide (bb = b2)))) := ⟨w_isB⟩
instance : Stp (fNotB (.bool bb) (.bool b2) Q) (Q (.bool (!decide (bb = b2)))) := ⟨w_notB⟩
instance [h : AtR ds x d] : Stp (fIx (.tuple ds) (.int x) Q) (Q d) := ⟨w_ixT h.e⟩
instance [h : AtR ds x d] : Stp (fIx (.list ds) (.int x) Q) (Q d) := ⟨w_ixL h.e⟩
instance [h : IsiR T d bb] : Stp (fIsi T d Q) (Q (.bool bb)) := ⟨fun q => by obtain ⟨a, h1, h2⟩ := h.e; exact w_isi h1 (by rw [h2]; exact q)⟩
instance [h : AllR ds bb] : Stp (fAll [.list ds] Q) (Q (.bool bb)) := ⟨fun q => by obtain ⟨a, h1, h2⟩ := h.e; exact w_all h1 h2 q⟩
instance : Stp (if true = true then A else B) (A) := ⟨w_iteT rfl⟩
instance : Stp (if false = true then A else B) (B) := ⟨w_iteF rfl⟩
instance [h : LnR ds k] : Stp (ds.length = k ∧ A) (A) := ⟨w_and h.e⟩
instance [h : Shrt ds 100000] : Stp (ds.length ≤ 100000 ∧ A) (A) := ⟨w_and h.e⟩
instance [h : Shrt ds 99999] : Stp (ds.length < 100000 ∧ A) (A) := ⟨w_and (Nat.lt_succ_of_le h.e)⟩
instance (priority := 500) : Stp (lcW g c m ρ [] es QL) (QL es) := ⟨w_lcN⟩
instance (priority := 500) : Stp (fLen [.list ds] Q) (Q (.int ds.length)) := ⟨w_lenL⟩
instance (priority := 500) : Stp (fLen [.tuple ds] Q) (Q (.int ds.length)) := ⟨w_lenT⟩
end
section
variable {Q : D → Prop} {a b c d e f g h i j k l : D}
instance : Stp (fLen [.list []] Q) (Q (.int 0)) := ⟨w_lenL (ds := [])⟩
instance : Stp (fLen [.tuple []] Q) (Q (.int 0)) := ⟨w_lenT (ds := [])⟩
instance : Stp (fLen [.list [a]] Q) (Q (.int 1)) := ⟨w_lenL (ds := [a])⟩
instance : Stp (fLen [.tuple [a]] Q) (Q (.int 1)) := ⟨w_lenT (ds := [a])⟩
instance : Stp (fLen [.list [a, b]] Q) (Q (.int 2)) := ⟨w_lenL (ds := [a, b])⟩
instance : Stp (fLen [.tuple [a, b]] Q) (Q (.int 2)) := ⟨w_lenT (ds := [a, b])⟩
instance : Stp (fLen [.list [a, b, c]] Q) (Q (.int 3)) := ⟨w_lenL (ds := [a, b, c])⟩
instance : Stp (fLen [.tuple [a, b, c]] Q) (Q (.int 3)) := ⟨w_lenT (ds := [a, b, c])⟩
instance : Stp (fLen [.list [a, b, c, d]] Q) (Q (.int 4)) := ⟨w_lenL (ds := [a, b, c, d])⟩
instance : Stp (fLen [.tuple [a, b, c, d]] Q) (Q (.int 4)) := ⟨w_lenT (ds := [a, b, c, d])⟩
instance : Stp (fLen [.list [a, b, c, d, e]] Q) (Q (.int 5)) := ⟨w_lenL (ds := [a, b, c, d, e])⟩
instance : Stp (fLen [.tuple [a, b, c, d, e]] Q) (Q (.int 5)) := ⟨w_lenT (ds := [a, b, c, d, e])⟩
instance : Stp (fLen [.list [a, b, c, d, e, f]] Q) (Q (.int 6)) := ⟨w_lenL (ds := [a, b, c, d, e, f])⟩
instance : Stp (fLen [.tuple [a, b, c, d, e, f]] Q) (Q (.int 6)) := ⟨w_lenT (ds := [a, b, c, d, e, f])⟩
instance : Stp (fLen [.list [a, b, c, d, e, f, g]] Q) (Q (.int 7)) := ⟨w_lenL (ds := [a, b, c, d, e, f, g])⟩
instance : Stp (fLen [.tuple [a, b, c, d, e, f, g]] Q) (Q (.int 7)) := ⟨w_lenT (ds := [a, b, c, d, e, f, g])⟩
instance : Stp (fLen [.list [a, b, c, d, e, f, g, h]] Q) (Q (.int 8)) := ⟨w_lenL (ds := [a, b, c, d, e, f, g, h])⟩
instance : Stp (fLen [.tuple [a, b, c, d, e, f, g, h]] Q) (Q (.int 8)) := ⟨w_lenT (ds := [a, b, c, d, e, f, g, h])⟩
instance : Stp (fLen [.list [a, b, c, d, e, f, g, h, i]] Q) (Q (.int 9)) := ⟨w_lenL (ds := [a, b, c, d, e, f, g, h, i])⟩
instance : Stp (fLen [.tuple [a, b, c, d, e, f, g, h, i]] Q) (Q (.int 9)) := ⟨w_lenT (ds := [a, b, c, d, e, f, g, h, i])⟩
instance : Stp (fLen [.list [a, b, c, d, e, f, g, h, i, j]] Q) (Q (.int 10)) := ⟨w_lenL (ds := [a, b, c, d, e, f, g, h, i, j])⟩
instance : Stp (fLen [.tuple [a, b, c, d, e, f, g, h, i, j]] Q) (Q (.int 10)) := ⟨w_lenT (ds := [a, b, c, d, e, f, g, h, i, j])⟩
end
local macro_rules | `(tactic| tb_rel) => `(tactic| with_reducible refine Stp.h ?_)
local macro_rules | `(tactic| f_look) => `(tactic| exact ⟨rfl, rfl⟩)
local macro_rules | `(tactic| canon_of) => `(tactic| with_reducible first
  | refine w_mul ?_ ?_ | refine w_div ?_ ?_ | refine w_mod ?_ ?_ | refine w_pow ?_ ?_ | (refine w_eq ?_ ?_ ?_) | (refine w_ne ?_ ?_ ?_) | refine w_catL ?_ ?_ | refine w_catS ?_ ?_)
local macro_rules | `(tactic| pv_isi_meta) => `(tactic| fail)
local macro_rules | `(tactic| pv_isi_sub_true) => `(tactic| first | exact True.intro | with_reducible exact rfl | decide | exact Nat.le_of_ble_eq_true rfl | exact rfl)
local macro_rules | `(tactic| pv_isi_answer) => `(tactic| first
  | (with_reducible refine w_iteT ?hb ?_; (case hb => decide))
  | (with_reducible refine w_iteF ?hb ?_; (case hb => decide)))
local macro_rules | `(tactic| tb_start) => `(tactic| first
  | ((with_reducible refine w_eq ?h1 ?h2 ?_); (case h1 => f_look); (case h2 => f_look))
  | ((with_reducible refine w_ne ?h1 ?h2 ?_); (case h1 => f_look); (case h2 => f_look))
  | ((with_reducible refine w_kR1 ?h1 ?h2 ?_); (case h1 => decide); (case h2 => decide))
  | (canon_of <;> try first | f_look | pv_isi_meta)
  | pv_isi_answer
  | ((with_reducible refine w_and ?hl ?_); (case hl => pv_isi_sub_true)))
local macro_rules | `(tactic| placed_of0) => `(tactic| repeat (first | tb_rel | tb_start))
local macro_rules | `(tactic| kfm_turns) => `(tactic| repeat ((fail_if_success (with_reducible refine w_seq ?_)); first | tb_rel | tb_start))

set_option maxHeartbeats 4000000

/-! ### an own exception's __init__: the base told, one field -/
def spInit (K : PySem.W.Frag) (C : Addr) : Sp := fun vs H Q _ => ∃ (a : Addr) (z : Str), vs = [.ref a, .str z] ∧ OexC K C ∧ H a = some (exo a C none) ∧ z.length ≤ 1000 ∧
  ∀ dx, H dx = none → dx ≠ a → Q .non (upd (upd H dx (exd dx [("word", .str z)])) a (exo a C (some dx)))
/-- the bound ValueError.__init__ called -/
theorem bound_init {X : Cx} {pins : List (Addr × Obj)} {σ : L2.St} {H : Hp} {s : Shared} {a u C : Addr} {us : List Value} {Q : Value → Shared → Prop} {E : Value → Shared → Prop} {A : Around} (T : OexC X.K C) (I : Inv X pins σ H s) (e : H a = some (exo a C none)) (hu : s.heap.get? u = some (PySem.W.kxs_mw "ValueError.__init__" a)) (hl : us.length ≤ sizeLine)
    (h : ∀ s', Inv X pins σ H s' → Q .none s') : wpAny (model X.prog X.w) A (call (.ref u) us) Q E s := by
  obtain ⟨nm, q, N, bs, bm, sn, sub, ab, col, dd, k0, k1, k2, k3, k5, hC, hbm⟩ := T.cls
  obtain ⟨t1, ho⟩ := exo_at I.hok e
  obtain ⟨hh, g, d, tk, os⟩ := s
  refine wpAny_call (codeAny_of_tree ?_)
  show wpAny _ A.in1 (callAny (.ref u) ⟨us, []⟩) _ _ _
  simp only [callAny]
  refine wpAny_bind (wpAny_load hu ?_)
  simp only [PySem.W.kxs_mw, show (Value.type "method-wrapper" == Value.type "method" || Value.type "method-wrapper" == Value.type "builtin_function_or_method" || Value.type "method-wrapper" == Value.type "method-wrapper") = true by decide, if_true]
  refine PySem.W.KFB.if_so (by decide) ?_
  refine wpAny_bind (PySem.W.check_bound_init F.excBase_ValueError.toExcCallFacts (I.kIn _ _ hC) ho rfl ?_)
  refine wpAny_bind (wpAny_pure (wpAny_pure ?_))
  refine ⟨plainId_quiet F.excBase_ValueError.init.plain _, codeAny_builtin F.excBase_ValueError.initEntry ?_⟩
  refine PySem.W.exc_init_tree (cls := .ref C) (t0 := t1) (dv := none) (c2 := .none) (c3 := .none) (b4 := .bool false) ho hl fun h' k hx _ => ?_
  have J := I.write (t' := tk) (x := a) (e := a) (o := exo a C none) (by rw [e]; exact True.intro) (.inl rfl) k ⟨_, hx⟩ (exo_ok hx)
  have eu : upd H a (exo a C none) = H := by
    funext b
    by_cases hb : b = a
    · rw [hb, upd_same, e]
    · rw [upd_ne hb]
  rw [eu] at J
  exact h _ J

abbrev supScope : Scope := { kind := .function, names := [("self", .local), ("word", .local), ("__class__", .free), ("super", .globalImplicit)], isGenerator := false, isCoroutine := false, more := [] }
theorem sup_scope : NdefX.NScope ["self", "word", "__class__"] ["self", "word"] ["__class__"] supScope := NdefX.nscope_by (by decide +kernel)
abbrev supCall (p0 p1 p2 p3 p4 p5 p6 : Pos) (j : Nat) (msg : Str) : Expr := .Call (.Attribute (.Call (.Name "super" p0) [] [] p1) "__init__" p2) [.BinOp (.Constant (.str msg) j p3) .Add (.Name "word" p4) p5] [] p6
/-- what the written part says of the def __init__ -/
structure SupAt (P : Program) (K : PySem.W.Frag) (mg : Str → Option Value) (C f cc cda : Addr) (qual : Str) (params : Arguments) : Prop where
  par : (params.posonlyargs ++ params.args).head?.map (·.arg) = some "self"
  code : PySem.W.codeIn K (.ref cda) qual = true
  file : ∃ ccl cdd vs ccs file tf, K.lookup cda = some (⟨ccl, cdd, .fields vs, ccs⟩ : Obj) ∧ vs[2]? = some (.str file tf) ∧ ((P.main.file : Str) == file) = true
  cell : ∃ cl cld csl, K.lookup cc = some (⟨cl, cld, .cell (some (.ref C)), csl⟩ : Obj)
  sup : mg "super" = none
  top : (P.main.scope.names.lookup ("super" : Str)).isSome = false
  sub : PySem.W.mroIn K C (.ref C) = some true
  no : PySem.W.nsIn K cStatics "thirdparty.any" = some none
  meth : PySem.W.ks_superIn K C C "__init__" = some (some (.builtin "ValueError.__init__"))
  isV : PySem.W.subIn K (.ref C) (.type "ValueError") = some true
  fld : PySem.W.findIn K (.ref C) "word" = some none
theorem sup_fn {P : Program} {w : PySem.World} {K : PySem.W.Frag} {mg : Str → Option Value} {base : Heap} {k : Nat} {C f cc cda : Addr} {qual : Str} {params : Arguments} {dV kV doc pm ct oc : Value} {an od : Option Addr} {osl : Array (Option Value)}
    {p0 p1 p2 p3 p4 p5 p6 p7 p8 p9 p10 p11 : Pos} {j : Nat} {msg : Str} (Z : SupAt P K mg C f cc cda qual params) (hmsg : msg.length ≤ 1000) {pl : Sem Bool}
    (hev : ∀ env : Env, eval (supCall p0 p1 p2 p3 p4 p5 p6 j msg) env = (do
      let ov ← attributeBase (.Call (.Name "super" p0) [] [] p1) "__init__" env (eval (.Call (.Name "super" p0) [] [] p1) env)
      standAt p2.atName
      let (f, first) ← holding [ov] (getMethod ov "__init__" pl)
      callWith p6 f first (backTo p6 (starEach [.BinOp (.Constant (.str msg) j p3) .Add (.Name "word" p4) p5] env)) []))
    (hsw : ∀ env : Env, swapsWith (supCall p0 p1 p2 p3 p4 p5 p6 j msg) none p7.line env = pure false)
    (hsw2 : ∀ env : Env, swapsWith (.Name "word" p10) (some (.Attribute (.Name "self" p8) "word" p9)) p11.line env = pure false)
    (lk : K.lookup f = some ⟨oc, od, .func (PySem.W.ksFn "__init__" qual params
      [.Expr (supCall p0 p1 p2 p3 p4 p5 p6 j msg) p7,
       .Assign [.Attribute (.Name "self" p8) "word" p9] (.Name "word" p10) p11] supScope dV kV doc pm an (.ref cda) ct cc), osl⟩) :
    FnOk P w K mg base CX0 (k + 1) f (PySem.W.ksFn "__init__" qual params
      [.Expr (supCall p0 p1 p2 p3 p4 p5 p6 j msg) p7,
       .Assign [.Attribute (.Name "self" p8) "word" p9] (.Name "word" p10) p11] supScope dV kV doc pm an (.ref cda) ct cc) ["self", "word"] (spInit K C) := by
  refine ⟨fun vs H Q E h => by obtain ⟨a, z, rfl, _⟩ := h; rfl, fun A outer s H args us vs Q E hr e0 hb r hsp => ?_⟩
  obtain ⟨a, z, rfl, T, ha, hz, hq⟩ := hsp
  have KX : K.In s.heap := e0.mod.kin.keeps fun b o e => (e0.bs b o e).1
  have lim : s.heap.NoLimit := e0.mod.nolimit.keeps fun b o e => (e0.bs b o e).1
  obtain ⟨cl, cld, csl, hcell⟩ := Z.cell
  obtain ⟨ccl, cdd, vs2, ccs, file, tf, hcode, hvs, hfile⟩ := Z.file
  refine ks_codeAny_call_defAt hr.depth (KX _ _ lk) rfl lim (PySem.W.codeRec_of KX Z.code) rfl hb sup_scope.nocell (fun y hy => sup_scope.par y.1 (List.of_mem_zip hy).1) (fun h₀ hns kp => ?_) sup_scope.co sup_scope.gen sup_scope.kind
  have CA : NdefX.CellsAt [("__class__", cc)] ["__class__"] [none] s.heap H := by
    have one : ∀ y c, ([("__class__", cc)] : List (Str × Addr)).lookup y = some c → c = cc ∧ y = "__class__" := fun y c e => by
      rw [List.lookup_cons] at e
      by_cases hy : y = "__class__"
      · subst hy
        simp at e
        exact ⟨e.symm, rfl⟩
      · rw [show (y == ("__class__" : Str)) = false by simpa using hy] at e
        simp at e
    refine ⟨rfl, fun y c e => ?_, fun x y c e1 e2 => by rw [(one _ _ e1).2, (one _ _ e2).2], fun i y hy => ?_⟩
    · obtain ⟨rfl, _⟩ := one y c e
      exact ⟨(e0.bs _ _ (e0.mod.kin _ _ hcell)).2, _, _, KX _ _ hcell, rfl⟩
    · match i, hy with
      | 0, hy =>
        cases hy
        exact ⟨cc, rfl, fun v z => by cases z⟩
      | i + 1, hy => simp at hy
  have hl : ([.ref a, .str z] : List V).length = (["self", "word"] : List Str).length := rfl
  have I : Inv (NdefX.ncx CX0 P w K mg base ["self", "word", "__class__"] ⟨"__init__", qual, params, [], supScope, [("__class__", cc)], cda⟩ f A outer s H E) [] (NdefX.startF ["self", "word", "__class__"] [.ref a, .str z] [none]) H { s with heap := h₀, toks := s.toks + (["self", "word"].zip us).length } :=
    NdefX.inv_startN sup_scope hr.hd e0 hl r CA hns kp
  generalize hX : NdefX.ncx CX0 P w K mg base ["self", "word", "__class__"] ⟨"__init__", qual, params, [], supScope, [("__class__", cc)], cda⟩ f A outer s H E = X at I
  have hXp : X.prog = P := by rw [← hX]; rfl
  have hXw : X.w = w := by rw [← hX]; rfl
  have hXK : X.K = K := by rw [← hX]; rfl
  have hXe : X.env = callEnv (PySem.W.ksFn "__init__" qual params
      [.Expr (supCall p0 p1 p2 p3 p4 p5 p6 j msg) p7,
       .Assign [.Attribute (.Name "self" p8) "word" p9] (.Name "word" p10) p11] supScope dV kV doc pm an (.ref cda) ct cc) s.heap.objs.size f := by rw [← hX]; rfl
  refine PySem.ks_wpAt_execs_cons ?_
  refine PySem.ks_wpAt_Expr_any ?_ rfl (hsw _)
  refine PySem.ks_wpAt_MethodCall (pl := pl) ?_ (hev _)
  rw [← hXe]
  have hxA : X.A = A.deeper X.env := by rw [← hX]; rfl
  have hxe : X.xe = fun e s' => wpAny (model P w) (A.deeper X.env) (leaving X.env e) (fun _ s'' => CR CX0 outer P w H s Q E (.error e) s'') (fun e' s'' => CR CX0 outer P w H s Q E (.error e') s'') s' := by rw [← hX]; rfl
  rw [← hxe, ← hxA]
  have hN : X.N = (["self", "word", "__class__"] : List Str) := by rw [← hX]; rfl
  have hsc : X.env.scope = supScope := by rw [hXe]; rfl
  have hloc : X.env.locals = s.heap.objs.size := by rw [hXe]; rfl
  have hx0 : X.H_0 = H := by rw [← hX]; rfl
  have hs0 : X.s_0 = s := by rw [← hX]; rfl
  have hout : X.outer = outer := by rw [← hX]; rfl
  have hex : X.ex = [] := by rw [← hX]; rfl
  have hfu : X.env.func = some f := by rw [hXe]; rfl
  have hco : X.env.code = .ref cda := by rw [hXe]; rfl
  have hce : X.env.cells.lookup ("__class__" : Str) = some cc := by rw [hXe]; rfl
  have hmg : X.mg = mg := by rw [← hX]; rfl
  clear hX hXe
  subst hXp hXw hXK hmg
  generalize hσ : NdefX.startF ["self", "word", "__class__"] [.ref a, .str z] [none] = σ at I
  have hσ' : σ = [some (.ref a), some (.str z), none] := by rw [← hσ]; rfl
  -- the second row
  have key : ∀ s', Inv X [] σ H s' → PySem.wpAt (model X.prog X.w) X.A (.func [.Expr (supCall p0 p1 p2 p3 p4 p5 p6 j msg) p7, .Assign [.Attribute (.Name "self" p8) "word" p9] (.Name "word" p10) p11] X.env)
      (execs [.Assign [.Attribute (.Name "self" p8) "word" p9] (.Name "word" p10) p11] X.env) (fun f s' => CR CX0 outer X.prog X.w H s Q E (.ok (.ret (match f with | .ret v => v | _ => .none))) s') X.xe s' := fun s' J => by
    have hst : PS X (.Assign [.Attribute (.Name "self" p8) "word" p9] (.Name "word" p10) p11) (tOst X.K "word" (tVar 0) (tVar 1)) :=
      ps_ost (pe_var (by rw [hN]; rfl) (by rw [hsc]; exact .inl rfl)) (pe_var (by rw [hN]; rfl) (by rw [hsc]; exact .inl rfl)) (hsw2 _)
    refine PySem.wpAt_of_wpAny (wpAny_mono ((pss_one hst).run [] s' σ H { nx := fun _ H' => Q .non H', rt := fun _ _ => False, bk := fun _ _ => False, ct := fun _ _ => False } J ?_) (fun fl s2 hs => ?_) fun e s2 he => he)
    · subst hσ'
      refine ⟨.str z, rfl, .ref a, rfl, a, C, rfl, T, Z.fld, .inl ⟨ha, hq⟩⟩
    · cases fl with
      | ret u =>
        obtain ⟨v, σ', H', J2, rv, q⟩ := hs
        exact q.elim
      | next =>
        obtain ⟨σ', H', J2, q⟩ := hs
        have hb2 := J2.base
        rw [hx0, hs0, hex, show X.fs = frs outer by rw [← hout]] at hb2
        exact ⟨.non, H', by rw [← hs0]; exact J2.os, J2.bare, hb2, J2.hok, rfl, q⟩
      | brk =>
        obtain ⟨_, _, _, q⟩ := hs
        exact q.elim
      | cont =>
        obtain ⟨_, _, _, q⟩ := hs
        exact q.elim
  -- super()
  obtain ⟨nm, q2, N, bs, bm, sn, sub, ab, col, dd, k0, k1, k2, k3, k5, hC, hbm⟩ := T.cls
  obtain ⟨cd, hcd⟩ : ∃ cd, PySem.W.clsIn X.K C = some cd := by unfold PySem.W.clsIn; rw [hC]; exact ⟨_, rfl⟩
  have K0 : X.K.In h₀ := I.kIn
  obtain ⟨t1, ho⟩ := exo_at I.hok ha
  obtain ⟨u0, us0, rfl⟩ : ∃ u0 us0, us = u0 :: us0 := by cases r; exact ⟨_, _, rfl⟩
  have hself : ((["self", "word"] : List Str).zip (u0 :: us0)).reverse.lookup ("self" : Str) = some (Value.ref a) := by
    cases r with
    | cons r0 rr =>
    cases r0
    cases rr with
    | cons r1 rr =>
    cases rr
    rfl
  obtain ⟨parg, hpa, hpn⟩ : ∃ ar, (params.posonlyargs ++ params.args).head? = some ar ∧ ar.arg = "self" := by
    have := Z.par
    cases e : (params.posonlyargs ++ params.args).head? with
    | none => rw [e] at this; cases this
    | some ar => rw [e] at this; exact ⟨ar, rfl, Option.some.inj this⟩
  refine PySem.ks_wpAt_super_base (f := f) (cc := cda) (env := X.env) (s := { s with heap := h₀, toks := s.toks + ((["self", "word"] : List Str).zip (u0 :: us0)).length }) (ar := parg) (by show X.env.scope.names.lookup _ = _; rw [hsc]; rfl) (by show X.env.scope.names.lookup _ = _; rw [hsc]; rfl) (by decide) hfu (K0 _ _ lk) rfl hpa hco (K0 _ _ hcode) rfl hvs hfile Z.top ?_
  rw [hpn]
  have hk : X.env.scope.kind = .function := by rw [hsc]
  obtain ⟨mb, h1, h2⟩ := I.mod.blt
  refine PySem.W.ks_loadName_global hk (by show X.env.scope.names.lookup _ = _; rw [hsc]; rfl) (Calls.loadGlobal_builtin (by rw [I.ok.glob]; exact I.mod.glob.keeps I.bk) Z.sup (by rw [I.ok.blt]; exact h1.keeps I.bk) ((h2 _ (by decide)).trans (show bootBuiltins "super" = some (.type "super") by first | rfl | kernel_rfl)) ⟨rfl, ?_⟩)
  refine wpAny_loadName_free hk (by show X.env.scope.names.lookup _ = _; rw [hsc]; rfl) hce ⟨_, K0 _ _ hcell, rfl⟩ ?_
  refine wpAny_loadName_local hk (by show X.env.scope.names.lookup _ = _; rw [hsc]; rfl) (by rw [hloc]; exact hns) hself ?_
  refine PySem.ks_wpAny_isType_cls (h := h₀) (K0 _ _ hC) rfl ⟨rfl, ?_⟩
  refine PySem.ks_wpAny_call_super (K0 _ _ hC) rfl ho rfl (fun c e => by cases e) (PySem.W.looks_mroIn K0 Z.sub) (fun h2 eso k2 => ?_)
  have I1 : Inv X [] σ H { s with heap := h2, toks := s.toks + ((["self", "word"] : List Str).zip (u0 :: us0)).length } := I.kept k2
  have J1 : PySem.W.InstAt h2 a { cls := .ref C, dict := none, data := .fields #[.ref t1, .none, .none, .none, .bool false, .none] } C none := ⟨k2 _ _ ho, rfl, rfl, trivial⟩
  refine PySem.W.kxs_getMethod PySem.W.kxs_ValueError eso (PySem.W.looks_opaque I1.kIn Z.no) (l₀ := cd.mro) (fun A Q E s k q => wpAny_bind ((PySem.W.looks_clsIn I1.kIn hcd) A _ E s k (wpAny_pure q))) rfl I1.kIn (by have := Z.meth; unfold PySem.W.ks_superIn at this; rw [hcd] at this; exact this) (J1.type.andThen (PySem.W.looks_subIn I1.kIn Z.isV)) (PySem.W.ks_ne I1.kIn J1 hcd) (by decide) ?_
  have I2 : Inv X [] σ H { s with heap := h2.push (PySem.W.kxs_mw "ValueError.__init__" a), toks := s.toks + ((["self", "word"] : List Str).zip (u0 :: us0)).length + 1 } := I1.kept (t' := _) fun b o e => Heap.get?_push_of_some _ e
  have hw : (h2.push (PySem.W.kxs_mw "ValueError.__init__" a)).get? h2.objs.size = some (PySem.W.kxs_mw "ValueError.__init__" a) := Heap.get?_push_size _ rfl
  have hfr : H h2.objs.size = none := I1.hok.fresh (Nat.le_refl _)
  have I3 : Inv X [(h2.objs.size, PySem.W.kxs_mw "ValueError.__init__" a)] σ H { s with heap := h2.push (PySem.W.kxs_mw "ValueError.__init__" a), toks := s.toks + ((["self", "word"] : List Str).zip (u0 :: us0)).length + 1 } := I2.pins_of fun p hp => by
    rw [List.mem_singleton] at hp
    subst hp
    exact ⟨hw, hfr, fun z => absurd I1.lt (by rw [← z]; exact Nat.lt_irrefl _), I1.nofs (Nat.le_refl _), fun v z => by cases z⟩
  have hA : PA X [.BinOp (.Constant (.str msg) j p3) .Add (.Name "word" p4) p5] (tCons (tOp (fun x y H Q => ∃ i j, x = .str i ∧ y = .str j ∧ i.length + j.length ≤ sizeLine ∧ Q (.str (i ++ j)) H) (tC (.str msg)) (tVar 1)) tNil) :=
    pa_cons (pe_op op_add_str pe_str (pe_var (by rw [hN]; rfl) (by rw [hsc]; exact .inl rfl))) pa_nil
  show wpAny _ _ (callWith p6 (Value.ref h2.objs.size) [] _ []) _ _ _
  refine PySem.W.kxs_callWith (i := "ValueError.__init__") (x := a) rfl (Calls.evalArgs_plain (wpAny_mono (hA.run p6 _ _ σ H (fun vs H1 => vs.length = 1 ∧ H1 = H) I3 ?_) (fun us s1 hh => ?_) fun _ _ x => x))
  · subst hσ'
    exact ⟨.str z, rfl, msg, z, rfl, rfl, by rw [sizeLine_eq]; omega, rfl, rfl⟩
  obtain ⟨vs, H1, I4, r4, hl4, rfl⟩ := hh
  obtain ⟨hu, _⟩ := I4.pin (h2.objs.size, PySem.W.kxs_mw "ValueError.__init__" a) (List.mem_append_right _ List.mem_cons_self)
  refine ⟨hu, ?_⟩
  refine bound_init T I4 ha hu (by show ([] ++ us).length ≤ sizeLine; rw [List.nil_append, ← r4.length, hl4, sizeLine_eq]; omega) fun s5 I5 => ?_
  exact key s5 (I5.pins_of fun p hp => by simp at hp)


/-! ### an exception, told as a datum that no value has -/
def exD (z : Str) : D := .dict [(.str Str.empty, .str z)]
def excOf : D → Option Str
  | .dict [(.str _, .str z)] => some z
  | _ => none
theorem excOf_exD (z : Str) : excOf (exD z) = some z := rfl
theorem excOf_rp {K : PySem.W.Frag} {aw : Option Addr} {H : Hp} {v : V} {d : D} (r : Rp K aw H v d) : excOf d = none := by
  cases r <;> rfl
/-- the exception's dict: its word -/
def Wd (H : Hp) (dx : Addr) (z : Str) : Prop := H dx = some (.xd [("word", .str z)])
section
variable {X : Cx} {aw : Option Addr} {C : Addr} {W : WX}
/-- an expression that may raise -/
def tMX (K : PySem.W.Frag) (aw : Option Addr) (C : Addr) (W : WX) (m : En → M D) : TE := fun σ H R => ∃ G B ρ Q, Ok K aw G B σ ρ H ∧ m ρ Q ∧ (∀ v H' d, Ext aw H H' → World aw (cut H' B) → Rp K aw (cut H' B) v d → Q d → R v H') ∧
  ∀ H' dx z, Ext aw H H' → World aw (cut H' B) → Wd H' dx z → Q (exD z) → W (.ref C) (some dx) σ H'
abbrev SEX (X : Cx) (aw : Option Addr) (C : Addr) (W : WX) (e : Expr) (m : En → M D) : Prop := PE X e (tMX X.K aw C W m)
theorem sex_of {e : Expr} {m : En → M D} (h : SE X aw e m) : SEX X aw C W e m := pe_to h fun σ H R => by
  rintro ⟨G, B, ρ, Q, o, hm, q, _⟩
  exact ⟨G, B, ρ, Q, o, hm, q⟩
/-- a def's promise, where it may raise -/
def spX (K : PySem.W.Frag) (C : Addr) (n : Nat) (F : List D → M D) : Sp := fun vs H Q E => ∃ aw B ds P, vs.length = n ∧ World aw (cut H B) ∧ (∀ p ∈ B, ∃ xs, H p = some (.lst xs)) ∧ RpA K aw (cut H B) vs ds ∧ F ds P ∧
  (∀ v H' d, Ext aw H H' → World aw (cut H' B) → Rp K aw (cut H' B) v d → P d → Q v H') ∧ ∀ H' dx z, Ext aw H H' → World aw (cut H' B) → Wd H' dx z → P (exD z) → E (.ref C) (some dx) H'
structure Dx (P : Program) (w : PySem.World) (K : PySem.W.Frag) (mg : Str → Option Value) (base : Heap) (C : Addr) (x : Str) (n k : Nat) (F : List D → M D) : Prop where
  ex : ∃ f fd ps, ps.length = n ∧ mg x = some (.ref f) ∧ PySem.W.keepIn K (.ref f) = true ∧ Binds K fd ps [] ∧ FnOk P w K mg base (L2.CX P w) k f fd ps (spX K C n F)
theorem se_callX {x : Str} {p pos : Pos} {e : Expr} {es : List Expr} {t : En → M (List D)} {F : List D → M D} {n k j : Nat} (h : Dx X.prog X.w X.K X.mg X.base C x n j F) (hr : Room k X.A) (hjk : j ≤ k) (tk : Takes X W) (hg : Gl X x) (ha : SA X aw (e :: es) t)
    (hdb : (x == ("__debug__" : Str)) = false := by decide) (he : starEach (e :: es) X.env = (false, eval e X.env) :: starEach es X.env := by rfl) (hpl : (backTo pos (starEach es X.env)).any (·.1) = false := by rfl) : SEX X aw C W (.Call (.Name x p) (e :: es) [] pos) (eCallN n F t) := by
  obtain ⟨f, fd, ps, h0, h1, h2, h3, h4⟩ := h.ex
  refine pe_to (pe_callS (E := WE W) h4 (hr.mono hjk) hg h1 h2 h3 (fun σ => passAt tk σ) ha hdb he hpl) fun σ H R => ?_
  rintro ⟨G, B, ρ, Q, o, hm, q, qx⟩
  refine ⟨G, B, ρ, _, o, hm, fun vs H1 ds e1 w1 r1 q1 => ?_⟩
  exact ⟨aw, B, ds, Q, by rw [r1.length]; exact q1.1, w1, (o.grow e1 w1).own, r1, q1.2, fun v H' d e2 w2 r2 q2 => q v H' d (e1.trans e2) w2 r2 q2, fun H' dx z e2 w2 hd q2 => qx H' dx z (e1.trans e2) w2 hd q2⟩
/-- a if c else b, where they may raise -/
theorem sex_if {c a b : Expr} {pos : Pos} {tt : En → M Bool} {m n : En → M D} (hc : ST X aw c tt) (ha : SEX X aw C W a m) (hb : SEX X aw C W b n) : SEX X aw C W (.IfExp c a b pos) (eIf tt m n) := pe_to (pe_ifExp hc ha hb) fun σ H R => by
  rintro ⟨G, B, ρ, Q, o, hm, k, kx⟩
  refine ⟨G, B, ρ, _, o, hm, fun H1 bb e1 w1 q1 => ?_⟩
  cases bb with
  | true => exact ⟨G, B, ρ, Q, o.grow e1 w1, q1, fun v H' d e w r q => k v H' d (e1.trans e) w r q, fun H' dx z e w hd q => kx H' dx z (e1.trans e) w hd q⟩
  | false => exact ⟨G, B, ρ, Q, o.grow e1 w1, q1, fun v H' d e w r q => k v H' d (e1.trans e) w r q, fun H' dx z e w hd q => kx H' dx z (e1.trans e) w hd q⟩
/-! ### statements -/
def tSX (K : PySem.W.Frag) (aw : Option Addr) (C : Addr) (W : WX) (s : MS) : TS := fun Dn σ H => ∃ G B ρ P, Ok K aw G B σ ρ H ∧ s ρ P ∧
  (∀ σ' H' ρ' B', Ok K aw G B' σ' ρ' H' → Ext aw (cut H B) (cut H' B') → P.nx ρ' → Dn.nx σ' H') ∧
  (∀ v H' d, Ext aw G.H0 H' → World aw (cut H' G.Bc) → Rp K aw (cut H' G.Bc) v d → P.rt d → Dn.rt v H') ∧
  (∀ σ' H' ρ' B', Ok K aw G B' σ' ρ' H' → Ext aw (cut H B) (cut H' B') → P.bk ρ' → Dn.bk σ' H') ∧
  (∀ σ' H' ρ' B', Ok K aw G B' σ' ρ' H' → Ext aw (cut H B) (cut H' B') → P.ct ρ' → Dn.ct σ' H') ∧
  ∀ σ' H' dx z, Ext aw G.H0 H' → World aw (cut H' G.Bc) → Wd H' dx z → P.rt (exD z) → W (.ref C) (some dx) σ' H'
abbrev SSX (X : Cx) (aw : Option Addr) (C : Addr) (W : WX) (st : Stmt) (s : MS) : Prop := PS X st (tSX X.K aw C W s)
abbrev SSsX (X : Cx) (aw : Option Addr) (C : Addr) (W : WX) (st : List Stmt) (s : MS) : Prop := PSs X st (tSX X.K aw C W s)
theorem ssx_of {st : Stmt} {s : MS} (h : SS X aw st s) : SSX X aw C W st s := ps_to h fun Dn σ H => by
  rintro ⟨G, B, ρ, P, o, hs, k1, k2, k3, k4, _⟩
  exact ⟨G, B, ρ, P, o, hs, k1, k2, k3, k4⟩
theorem ssx_nil : SSsX X aw C W [] sNext := pss_to ss_nil fun Dn σ H => by
  rintro ⟨G, B, ρ, P, o, hs, k1, k2, k3, k4, _⟩
  exact ⟨G, B, ρ, P, o, hs, k1, k2, k3, k4⟩
theorem ssx_cons {st : Stmt} {rest : List Stmt} {s t : MS} (h1 : SSX X aw C W st s) (h2 : SSsX X aw C W rest t) : SSsX X aw C W (st :: rest) (sSeq s t) := pss_to (pss_cons h1 h2) fun Dn σ H => by
  rintro ⟨G, B, ρ, P, o, hs, k1, k2, k3, k4, k5⟩
  refine ⟨G, B, ρ, _, o, hs, fun σ' H' ρ' B' o' e' q' => ?_, k2, k3, k4, k5⟩
  exact ⟨G, B', ρ', P, o', q', fun σ2 H2 ρ2 B2 o2 e2 q2 => k1 σ2 H2 ρ2 B2 o2 (e'.trans e2) q2, k2, fun σ2 H2 ρ2 B2 o2 e2 q2 => k3 σ2 H2 ρ2 B2 o2 (e'.trans e2) q2, fun σ2 H2 ρ2 B2 o2 e2 q2 => k4 σ2 H2 ρ2 B2 o2 (e'.trans e2) q2, k5⟩
theorem ssx_one {st : Stmt} {s : MS} (h1 : SSX X aw C W st s) : SSsX X aw C W [st] s := pss_one h1
theorem ssx_if {c : Expr} {sts sts2 : List Stmt} {pos : Pos} {tt : En → M Bool} {s t : MS} (hc : ST X aw c tt) (h1 : SSsX X aw C W sts s) (h2 : SSsX X aw C W sts2 t) : SSX X aw C W (.If c sts sts2 pos) (sIf tt s t) := ps_to (ps_if hc h1 h2) fun Dn σ H => by
  rintro ⟨G, B, ρ, P, o, hs, k1, k2, k3, k4, k5⟩
  refine ⟨G, B, ρ, _, o, hs, fun H1 b e1 w1 q1 => ?_⟩
  have ec : Ext aw (cut H B) (cut H1 B) := cut_ext e1
  cases b with
  | true => exact ⟨G, B, ρ, P, o.grow e1 w1, q1, fun σ2 H2 ρ2 B2 o2 e2 q2 => k1 σ2 H2 ρ2 B2 o2 (ec.trans e2) q2, k2, fun σ2 H2 ρ2 B2 o2 e2 q2 => k3 σ2 H2 ρ2 B2 o2 (ec.trans e2) q2, fun σ2 H2 ρ2 B2 o2 e2 q2 => k4 σ2 H2 ρ2 B2 o2 (ec.trans e2) q2, k5⟩
  | false => exact ⟨G, B, ρ, P, o.grow e1 w1, q1, fun σ2 H2 ρ2 B2 o2 e2 q2 => k1 σ2 H2 ρ2 B2 o2 (ec.trans e2) q2, k2, fun σ2 H2 ρ2 B2 o2 e2 q2 => k3 σ2 H2 ρ2 B2 o2 (ec.trans e2) q2, fun σ2 H2 ρ2 B2 o2 e2 q2 => k4 σ2 H2 ρ2 B2 o2 (ec.trans e2) q2, k5⟩
theorem ssx_ret {e : Expr} {pos : Pos} {m : En → M D} (he : SEX X aw C W e m) : SSX X aw C W (.Return (some e) pos) (sRet m) := ps_to (ps_ret he) fun Dn σ H => by
  rintro ⟨G, B, ρ, P, o, hs, k1, k2, k3, k4, k5⟩
  refine ⟨G, B, ρ, _, o, hs, fun v H1 d e1 w1 r1 q1 => ?_, fun H' dx z e1 w1 hd q1 => ?_⟩
  · have o1 := o.grow e1 w1
    obtain ⟨w2, r2⟩ := ret_less o1 r1
    exact k2 v H1 d o1.ext w2 r2 q1
  · have o1 := o.grow e1 w1
    obtain ⟨w2, _⟩ := ret_less o1 .non
    exact k5 σ H' dx z o1.ext w2 hd q1
/-- name, .. = e, where e may raise -/
def sAsgX (m : En → M D) (g : MG) : MS := fun ρ P => m ρ fun d => (∀ z, excOf d = some z → P.rt d) ∧ (excOf d = none → g d ρ P.nx)
/-- raise C('z') -/
def sRaise (z : Str) : MS := fun _ P => P.rt (exD z)
/-- what the written part says of the class, for raise C('z') -/
structure RaiseAt (P : Program) (w : PySem.World) (K : PySem.W.Frag) (mg : Str → Option Value) (base : Heap) (x : Str) (C : Addr) : Prop where
  T : OexC K C
  gm : mg x = some (.ref C)
  ini : ∃ fI fd k, PySem.W.findIn K (.ref C) "__init__" = some (some (.ref fI)) ∧ PySem.W.typeIn K (.ref fI) = some (.type "function") ∧ FnOk P w K mg base CX0 k fI fd ["self", "word"] (spInit K C) ∧ Binds K fd ["self", "word"] [] ∧ k ≤ 1
theorem ssx_raise {x z : Str} {j k : Nat} {p p2 p3 pos : Pos} (hc : X.calm = true) (tk : Takes X W) (R : RaiseAt X.prog X.w X.K X.mg X.base x C) (hr : Room (k + 2) X.A) (hg : Gl X x) (hz : z.length ≤ 1000) (hdb : (x == ("__debug__" : Str)) = false := by decide)
    (he : starEach [.Constant (.str z) j p2] X.env = (false, eval (.Constant (.str z) j p2) X.env) :: starEach [] X.env := by rfl) (hpl : (backTo p3 (starEach [] X.env)).any (·.1) = false := by rfl) :
    SSX X aw C W (.Raise (some (.Call (.Name x p) [.Constant (.str z) j p2] [] p3)) none pos) (sRaise z) := by
  obtain ⟨fI, fd, k0, i1, i2, F1, hb, hk⟩ := R.ini
  have ha : PA X [.Constant (.str z) j p2] (tCons (tC (.str z)) tNil) := pa_cons pe_str pa_nil
  refine ps_to (ps_raise hc tk (pmk_oex R.T i1 i2 F1 (hr.mono (by omega)) hb .nil pass0 hg R.gm ha hdb he hpl)) fun Dn σ H => ?_
  rintro ⟨G, B, ρ, P, o, hs, k1, k2, k3, k4, k5⟩
  refine ⟨by show 1 ≤ 1000; decide, fun a hn => ⟨a, z, rfl, R.T, upd_same, hz, fun dx h1 h2 => ?_⟩⟩
  have hd : H dx = none := by rw [upd_ne h2] at h1; exact h1
  refine ⟨rfl, dx, [("word", .str z)], upd_same, by rw [upd_ne h2, upd_same], hd, ?_⟩
  have eq : ∀ b u, H b = some u → (upd (del (upd (upd (upd H a (exo a C none)) dx (exd dx [("word", .str z)])) a (exo a C (some dx))) a) dx (.xd [("word", .str z)])) b = some u := fun b u hb => by
    have n1 : b ≠ dx := ne_of_none hb hd
    have n2 : b ≠ a := ne_of_none hb hn
    rw [upd_ne n1, del_ne n2, upd_ne n2, upd_ne n1, upd_ne n2]
    exact hb
  have e1 : Ext aw H (upd (del (upd (upd (upd H a (exo a C none)) dx (exd dx [("word", .str z)])) a (exo a C (some dx))) a) dx (.xd [("word", .str z)])) := ⟨fun b u _ hb => eq b u hb, fun x _ kvs hx => ⟨kvs, eq _ _ hx⟩⟩
  have w1 : World aw (cut (upd (del (upd (upd (upd H a (exo a C none)) dx (exd dx [("word", .str z)])) a (exo a C (some dx))) a) dx (.xd [("word", .str z)])) B) := o.wld.ext (cut_ext e1) fun y ey => by
    obtain ⟨kvs, hy⟩ := o.wld.ne y ey
    rw [hy]
    obtain ⟨h3, h4⟩ := cut_some hy
    exact cut_of (eq _ _ h3) h4
  have o1 := o.grow e1 w1
  obtain ⟨w2, _⟩ := ret_less o1 .non
  exact k5 _ _ dx z o1.ext w2 upd_same hs
end
/-! ### defs -/
section
variable {P : Program} {w : PySem.World} {K : PySem.W.Frag} {mg : Str → Option Value} {base : Heap} {C : Addr}
theorem dx_of {x qual : Str} {st : Stmt} {f : Addr} {fd : FuncData} {N ps : List Str} {n k nl : Nat} {s : MS} (F : Fun K x qual st f fd) (S : FnScope N ps (defScope st)) (hn : ps.length = n) (hnl : N.length = nl) (gm : mg x = some (.ref f)) (b : Binds K fd ps [])
    (hb : ∀ (cdv : Value) (A : Around) (outer : List Env) (s0 : Shared) (H : Hp) (E : XK) (aw : Option Addr), Room k (A.deeper (envOfC qual (defScope st) s0.heap.objs.size f cdv)) → Takes (cxOf (L2.CX P w) P w K mg base N qual (defScope st) f cdv A outer s0 H E) (fun cls d _ H => E cls d H) →
      SSsX (cxOf (L2.CX P w) P w K mg base N qual (defScope st) f cdv A outer s0 H E) aw C (fun cls d _ H => E cls d H) (defBody st) s) :
    Dx P w K mg base C x n (k + 1) (bodyF nl s) := by
  subst hn hnl
  refine ⟨f, fd, ps, rfl, gm, F.kp, b, F.okX S (fun vs H Q E h => ?_) (fun cdv A outer s0 H vs Q E hr h => ?_)⟩
  · obtain ⟨_, _, _, _, h, _⟩ := h
    exact h
  · obtain ⟨aw, B, ds, P', hl, wl, hB, r, hF, q, qx⟩ := h
    refine ⟨_, hb cdv A outer s0 H E aw hr (takes_of rfl rfl rfl rfl), ⟨H, B⟩, B, env0 N.length ds, _, ok_start wl hB r, hF, fun σ' H' ρ' B' o' e' q' => ?_, fun v H' d e' w' r' q' => q v H' d e' w' r' q', fun _ _ _ _ _ _ z => z.elim, fun _ _ _ _ _ _ z => z.elim, fun σ' H' dx z e' w' hd q' => qx H' dx z e' w' hd q'⟩
    obtain ⟨w2, r2⟩ := ret_less o' (.non)
    exact q .non H' .none o'.ext w2 r2 q'
/-- where it must not raise -/
def noX (F : List D → M D) : List D → M D := fun ds Q => F ds fun d => excOf d = none ∧ Q d
theorem Dx.df {x : Str} {n k : Nat} {F : List D → M D} (h : Dx P w K mg base C x n k F) : Df P w K mg base x n k (noX F) := by
  obtain ⟨f, fd, ps, h0, h1, h2, h3, h4⟩ := h.ex
  refine ⟨f, fd, ps, h0, h1, h2, h3, ⟨fun vs H Q E q => by obtain ⟨_, _, _, _, q, _⟩ := q; rw [q, h0], fun A outer s H args us vs Q E hr e0 hb r q => ?_⟩⟩
  obtain ⟨aw, B, ds, P', hl, wl, hB, rr, hF, q⟩ := q
  refine codeAny_mono (h4.run A outer s H args us vs Q (fun _ _ _ => False) hr e0 hb r ⟨aw, B, ds, _, hl, wl, hB, rr, hF, fun v H' d e' w' r' q' => q v H' d e' w' r' q'.2, fun H' dx z _ _ _ q' => by have := q'.1; rw [excOf_exD] at this; cases this⟩) fun rs s' z => ?_
  cases rs with
  | ok fl => cases fl <;> exact z
  | error e =>
    obtain ⟨_, _, _, _, _, _, _, _, _, _, _, _, z⟩ := z
    exact z.elim
end


/-! ### try: body, except PlaneError as e: return e.word if isinstance(e, Unfit) else .. -/
/-- what the written part says of the two classes -/
structure TryAt (K : PySem.W.Frag) (mg : Str → Option Value) (C CP : Addr) : Prop where
  T : OexC K C
  X : XfC K C
  E : ExcC K C
  fld : PySem.W.findIn K (.ref C) "word" = some none
  one : PySem.W.exmOne K (.ref C) (.ref CP) = some true
  kit : PySem.W.kitOne K (.ref C) (.ref C) = some true
  gC : mg "Unfit" = some (.ref C)
  gP : mg "PlaneError" = some (.ref CP)
  iso : mg "isinstance" = none
def rIsW (K : PySem.W.Frag) (C a : Addr) (cls : Value) (d : Option Addr) : List V → Hp → VK → Prop := fun xs H Q => ∃ (dd : Addr) (fs : List (Str × V)), xs = [.ref a, .ref C] ∧ cls = .ref C ∧ d = some dd ∧ H dd = some (.xd fs) ∧ Q (.bl true) H
theorem call_isW {X : Cx} {mg : Str → Option Value} {a C CP : Addr} {oe : Obj} {cls : Value} {d : Option Addr} {pn : List (Addr × Obj)} (Z : TryAt X.K mg C CP) (hz : Zc cls d oe) (hf : ∃ vs, oe.data = .fields vs) : CallR (X.suite a ((a, oe) :: pn)) (.builtin "isinstance") (rIsW X.K C a cls d) := by
  intro pins s σ H xs us Q I r h
  obtain ⟨dd, fs, rfl, rfl, rfl, hd, q⟩ := h
  cases r with
  | cons rx rr =>
  cases rr with
  | cons rt rr =>
  cases rr
  cases rx
  cases rt
  obtain ⟨hget, _⟩ := I.pin (a, oe) (List.mem_append.mpr (.inl List.mem_cons_self))
  obtain ⟨vs, hv⟩ := hf
  have hx : ObjOk X.prog X.w H s.heap dd (.xd fs) := I.hok dd _ hd
  obtain ⟨mA, hns, hr⟩ := hx
  obtain ⟨od, ho, hl⟩ := lookIn_ns hns
  have J : PySem.W.InstAt s.heap a oe C (some od) := ⟨hget, hz.1, by unfold PySem.W.notCls; rw [hv] <;> rfl, by rw [hz.2]; exact ho⟩
  have hcl : (PySem.W.clsIn X.K C).isSome = true := by
    obtain ⟨nm, q2, N, bs, bm, sn, sub, ab, col, dd, k0, k1, k2, k3, k5, hC, hbm⟩ := Z.T.cls
    unfold PySem.W.clsIn
    rw [hC]
    rfl
  exact PySem.W.kia_one (PySem.W.kitx_exc hcl Z.E.hg Z.E.hk Z.E.hs Z.E.ha Z.E.hn Z.E.ht Z.E.hm) I.kIn J Z.kit (fun z => nomatch z) fun tk => ⟨.bl true, H, I.kept (t' := tk) fun _ _ z => z, rfl, q⟩
def sTry (s : MS) : MS := fun ρ P => s ρ { P with rt := fun d => match excOf d with
  | some z => P.rt (.str z)
  | none => P.rt d }
theorem ss_tryU {X : Cx} {aw : Option Addr} {C CP : Addr} {body : List Stmt} {s : MS} {i j : Nat} {bad : Str} {np p0 p1 p2 p3 p4 p5 p6 p7 pr pos pos' : Pos} (Z : TryAt X.K X.mg C CP) (hs : X.stack = X.env :: X.outer) (hf : X.env.frame = some X.env.locals) (hN : X.N.Nodup) (hi : X.N[i]? = some ("e" : Str)) (hln : X.env.kindOf "e" = some .local)
    (hgP : Gl X "PlaneError") (hgU : Gl X "Unfit") (hgi : Gl X "isinstance")
    (hb : ∀ (W : WX) (pn : List (Addr × Obj)) (xe : Value → Shared → Prop), Takes (X.tr pn xe) W → SSsX (X.tr pn xe) aw C W body s)
    (hat : ∀ env : Env, attributeBase (.Name "e" p6) "word" env (eval (.Name "e" p6) env) = eval (.Name "e" p6) env)
    (htr : ∀ env whole, isTrue (.Call (.Name "isinstance" p2) [.Name "e" p3, .Name "Unfit" p4] [] p5) env whole = (do let v ← whole; standAt (Expr.Call (.Name "isinstance" p2) [.Name "e" p3, .Name "Unfit" p4] [] p5).pos; holding [v] (truthy v)))
    (hst : ∀ env : Env, starEach [.Name "e" p3, .Name "Unfit" p4] env = (false, eval (.Name "e" p3) env) :: starEach [.Name "Unfit" p4] env)
    (hst2 : ∀ env : Env, starEach [.Name "Unfit" p4] env = (false, eval (.Name "Unfit" p4) env) :: starEach [] env)
    (hpl : ∀ env : Env, (backTo p5 (starEach [.Name "Unfit" p4] env)).any (·.1) = false) :
    SS X aw (.Try body [.ExceptHandler (some (.Name "PlaneError" np)) (some "e") [.Return (some (.IfExp (.Call (.Name "isinstance" p2) [.Name "e" p3, .Name "Unfit" p4] [] p5) (.Attribute (.Name "e" p6) "word" p7) (.Constant (.str bad) j p1) pr)) pos'] pos] [] [] p0) (sTry s) := by
  have hv : Vis X.env.scope "e" := .inl hln
  have hsu : ∀ (a : Addr) (oe : Obj) (cls : Value) (d : Option Addr) (pn : List (Addr × Obj)), Zc cls d oe → (∃ vs, oe.data = .fields vs) → PSs (X.suite a ((a, oe) :: pn)) [.Return (some (.IfExp (.Call (.Name "isinstance" p2) [.Name "e" p3, .Name "Unfit" p4] [] p5) (.Attribute (.Name "e" p6) "word" p7) (.Constant (.str bad) j p1) pr)) pos'] (tRet (tIf (tB (tCB (rIsW X.K C a cls d) (tCons (tVar i) (tCons (tC (.ref C)) tNil)))) (tXf a cls d C "word" (tVar i)) (tC (.str bad)))) := fun a oe cls d pn hz hf =>
    pss_one (ps_ret (pe_ifExp (pt_val (pe_callB (call_isW Z hz hf) hgi Z.iso (by decide +kernel) (pa_cons (pe_var (i := i) hi hv) (pa_cons (pe_glob (v := .ref C) hgU Z.gC rfl) pa_nil (hst2 _)) (hst _)) (by decide) (by decide) (hst _) (hpl _)) (htr _)) (pe_xf Z.X Z.fld hz hf (pe_var (i := i) hi hv) (hat _)) pe_str))
  have tkl : ∀ (W : WX) (pn : List (Addr × Obj)) (xe : Value → Shared → Prop), Takes (X.tr pn xe) W → Takes (X.tr pn xe) (fun cls d σ H => σ.length = X.N.length → W cls d σ H) := fun W pn xe tk u s' x => by
    obtain ⟨a, B, sI, pins, σ, H, cls, d, e, I, nb, up, sky, na, os, ag, w⟩ := x
    exact tk u s' ⟨a, B, sI, pins, σ, H, cls, d, e, I, nb, up, sky, na, os, ag, w I.len⟩
  refine ps_to (ps_try_as (tb := fun W => tSX X.K aw C (fun cls d σ H => σ.length = X.N.length → W cls d σ H) s) hs hf hN hi hln ⟨hgP, by decide, .inl Z.gP⟩ takes0 (fun W pn xe tk _ => hb _ pn xe (tkl W pn xe tk)) hsu) fun Dn σ H => ?_
  rintro ⟨G, B, ρ, P, o, hm, k1, k2, k3, k4⟩
  refine ⟨G, B, ρ, _, o, hm, k1, fun v H' d e' w' r' q' => ?_, k3, k4, fun σ' H' dx z e' w' hd q' => ?_⟩
  · have q' : (match excOf d with | some z => P.rt (.str z) | none => P.rt d) := q'
    rw [excOf_rp r'] at q'
    exact k2 v H' d e' w' r' q'
  · have q' : P.rt (.str z) := q'
    intro hlen
    refine ⟨true, Z.one, fun _ a ha => ?_, fun h => nomatch h⟩
    have hil : i < σ'.length := by rw [hlen]; exact (List.getElem?_eq_some_iff.mp hi).1
    have hset : (σ'.set i (some (.ref a)))[i]? = some (some (.ref a)) := List.getElem?_set_self hil
    refine ⟨.ref a, hset, dx, [("word", .str z)], rfl, rfl, rfl, hd, true, rfl, ?_⟩
    show tXf a (Value.ref C) (some dx) C "word" (tVar i) (σ'.set i (some (.ref a))) H' Dn.rt
    refine ⟨.ref a, hset, rfl, rfl, dx, [("word", .str z)], .str z, rfl, hd, rfl, ?_⟩
    exact k2 (.str z) H' (.str z) e' w' (.str z) q'


theorem ssx_asg {X : Cx} {aw : Option Addr} {C : Addr} {W : WX} {e c : Expr} {pos : Pos} {m : En → M D} {g : MG} {is : List Nat} (he : SEX X aw C W e m) (hg : SG X aw is c g) (hs : swapsWithSole [c] e pos.line X.env = pure false := by rfl) (hw : swappedStores [c] e X.env = pure none := by rfl) (h1 : (assignEach [c] X.env).map (·.2) = [assign c X.env] := by rfl) : SSX X aw C W (.Assign [c] e pos) (sAsgX m g) :=
  ps_to (ps_asg he hg hs hw h1) fun Dn σ H => by
    rintro ⟨G, B, ρ, P, o, hs, k1, k2, k3, k4, k5⟩
    refine ⟨G, B, ρ, _, o, hs, fun v H1 d e1 w1 r1 q1 => ?_, fun H' dx z e1 w1 hd q1 => ?_⟩
    · have o1 := o.grow e1 w1
      exact ⟨G, B, ρ, d, _, o1, r1, q1.2 (excOf_rp r1), fun σ' ρ' o' _ q' => k1 σ' H1 ρ' B o' (cut_ext e1) q'⟩
    · have o1 := o.grow e1 w1
      obtain ⟨w2, _⟩ := ret_less o1 .non
      exact k5 σ H' dx z o1.ext w2 hd (q1.1 z rfl)
theorem ssx_freeze {X : Cx} {aw : Option Addr} {C : Addr} {W : WX} {sts : List Stmt} {s : MS} {i : Nat} (h : SSsX X aw C W sts s) : SSsX X aw C W sts (sFreeze i s) := pss_to h fun Dn σ H => by
  rintro ⟨G, B, ρ, P, o, hs, k1, k2, k3, k4, k5⟩
  unfold sFreeze at hs
  split at hs
  · rename_i ds hd
    obtain ⟨B', o', ec⟩ := o.freeze hd
    exact ⟨G, B', _, P, o', hs, fun σ2 H2 ρ2 B2 o2 e2 q2 => k1 σ2 H2 ρ2 B2 o2 (ec.trans e2) q2, k2, fun σ2 H2 ρ2 B2 o2 e2 q2 => k3 σ2 H2 ρ2 B2 o2 (ec.trans e2) q2, fun σ2 H2 ρ2 B2 o2 e2 q2 => k4 σ2 H2 ρ2 B2 o2 (ec.trans e2) q2, k5⟩
  · cases hs
/-! ### what the top has written of the exceptions, put together -/
theorem raiseAt {P : Program} {w : PySem.World} {K : PySem.W.Frag} {h : Heap} {mg : Str → Option Value} (X : K.In h) (G : h.Ns mainGlobals mg)
    {C fI cc cda N : Addr} {oc kV doc pm ct ccl cl2 : Value} {od an cdd cld dd : Option Addr} {osl ccs csl : Array (Option Value)} {qual nm q file : Str} {q1 q2 p0 p1 p2 p3 p4 p5 p6 p7 p8 p9 p10 p11 : Pos} {j : Nat} {msg : Str} {bs bm : List Value} {sn : List Str} {sub : List Value} {ab : Bool} {col : Option Bool} {k0 k1 k2 k3 k5 : Option Value} {vs : Array Value} {tf : Tok} {pl : Sem Bool}
    (a : PySem.W.nsIn K mainGlobals "Unfit" = some (some (.ref C)))
    (i : PySem.W.findIn K (.ref C) "__init__" = some (some (.ref fI)))
    (l : K.lookup fI = some ⟨oc, od, .func (PySem.W.ksFn "__init__" qual ⟨[], [⟨"self", none, q1⟩, ⟨"word", none, q2⟩], none, [], [], none, []⟩
      [.Expr (supCall p0 p1 p2 p3 p4 p5 p6 j msg) p7, .Assign [.Attribute (.Name "self" p8) "word" p9] (.Name "word" p10) p11] supScope .none kV doc pm an (.ref cda) ct cc), osl⟩)
    (cl : K.lookup C = some (excClassObj nm q C N bs bm true sn sub ab col dd k0 k1 k2 k3 k5 "ValueError.__new__")) (hbm : PySem.HandSPX.refsVE bm = true)
    (sa : PySem.W.findIn K (.ref C) "__setattr__" = some (some (.builtin "object.__setattr__"))) (exC : PySem.W.subIn K (.ref C) (.type "BaseException") = some true) (tyC : PySem.W.typeIn K (.ref C) = some (.type "type")) (kC : PySem.W.keepIn K (.ref C) = true)
    (ty : PySem.W.typeIn K (.ref fI) = some (.type "function")) (code : PySem.W.codeIn K (.ref cda) qual = true)
    (lc : K.lookup cda = some (⟨ccl, cdd, .fields vs, ccs⟩ : Obj)) (hvs : vs[2]? = some (.str file tf)) (hfile : ((P.main.file : Str) == file) = true)
    (cell : K.lookup cc = some (⟨cl2, cld, .cell (some (.ref C)), csl⟩ : Obj)) (su : PySem.W.nsIn K mainGlobals "super" = some none) (top : (P.main.scope.names.lookup ("super" : Str)).isSome = false)
    (sb : PySem.W.mroIn K C (.ref C) = some true) (no : PySem.W.nsIn K cStatics "thirdparty.any" = some none) (meth : PySem.W.ks_superIn K C C "__init__" = some (some (.builtin "ValueError.__init__"))) (isV : PySem.W.subIn K (.ref C) (.type "ValueError") = some true) (fld : PySem.W.findIn K (.ref C) "word" = some none)
    (hmsg : msg.length ≤ 1000)
    (hev : ∀ env : Env, eval (supCall p0 p1 p2 p3 p4 p5 p6 j msg) env = (do
      let ov ← attributeBase (.Call (.Name "super" p0) [] [] p1) "__init__" env (eval (.Call (.Name "super" p0) [] [] p1) env)
      standAt p2.atName
      let (f, first) ← holding [ov] (getMethod ov "__init__" pl)
      callWith p6 f first (backTo p6 (starEach [.BinOp (.Constant (.str msg) j p3) .Add (.Name "word" p4) p5] env)) []))
    (hsw : ∀ env : Env, swapsWith (supCall p0 p1 p2 p3 p4 p5 p6 j msg) none p7.line env = pure false)
    (hsw2 : ∀ env : Env, swapsWith (.Name "word" p10) (some (.Attribute (.Name "self" p8) "word" p9)) p11.line env = pure false) :
    ∀ base : Heap, RaiseAt P w K mg base "Unfit" C := fun base => by
  have Z : SupAt P K mg C fI cc cda qual ⟨[], [⟨"self", none, q1⟩, ⟨"word", none, q2⟩], none, [], [], none, []⟩ :=
    ⟨rfl, code, ⟨_, _, _, _, _, _, lc, hvs, hfile⟩, ⟨_, _, _, cell⟩, PySem.W.mg_none_of X G su, top, sb, no, meth, isV, fld⟩
  refine ⟨⟨⟨_, _, _, _, _, _, _, _, _, _, _, _, _, _, _, cl, hbm⟩, sa, exC, tyC, kC⟩, PySem.W.mg_of X G a, fI, _, 1, i, ty, sup_fn (k := 0) Z hmsg hev hsw hsw2 l, .all fun us hl => ?_, Nat.le_refl _⟩
  match us, hl with
  | [_, _], _ => rfl
theorem tryAt {K : PySem.W.Frag} {h : Heap} {mg : Str → Option Value} (X : K.In h) (G : h.Ns mainGlobals mg) {C CP N : Addr} {nm q : Str} {bs bm : List Value} {sn : List Str} {sub : List Value} {ab : Bool} {col : Option Bool} {dd : Option Addr} {k0 k1 k2 k3 k5 : Option Value}
    (u : PySem.W.nsIn K mainGlobals "Unfit" = some (some (.ref C))) (a : PySem.W.nsIn K mainGlobals "PlaneError" = some (some (.ref CP))) (iso : PySem.W.nsIn K mainGlobals "isinstance" = some none)
    (cl : K.lookup C = some (excClassObj nm q C N bs bm true sn sub ab col dd k0 k1 k2 k3 k5 "ValueError.__new__")) (hbm : PySem.HandSPX.refsVE bm = true)
    (sa : PySem.W.findIn K (.ref C) "__setattr__" = some (some (.builtin "object.__setattr__"))) (tyC : PySem.W.typeIn K (.ref C) = some (.type "type")) (kC : PySem.W.keepIn K (.ref C) = true)
    (x1 : PySem.W.findIn K (.ref C) "__getattribute__" = some (some (.builtin "BaseException.__getattribute__"))) (x2 : PySem.W.findIn K (.ref C) "__getattr__" = some none) (x3 : PySem.W.subIn K (.ref C) (.type "BaseException") = some true) (x4 : PySem.W.hasDictIn K C = true)
    (x5 : PySem.W.findIn K (.ref C) "__class__" = some (some (.builtin "object.__class__"))) (x6 : PySem.W.specialIn K (.builtin "object.__class__") "__get__" = some (some (.builtin "getset_descriptor.__get__"))) (x7 : PySem.W.takesIn K (.builtin "object.__class__") = some true) (x8 : PySem.W.mroIn K C (.type "object") = some true)
    (fld : PySem.W.findIn K (.ref C) "word" = some none) (one : PySem.W.exmOne K (.ref C) (.ref CP) = some true) (kit : PySem.W.kitOne K (.ref C) (.ref C) = some true) : TryAt K mg C CP :=
  ⟨⟨⟨_, _, _, _, _, _, _, _, _, _, _, _, _, _, _, cl, hbm⟩, sa, x3, tyC, kC⟩, ⟨x1, x2, x3, x4⟩, ⟨x1, x2, x3, x4, x5, x6, x7, x8⟩, fld, one, kit, PySem.W.mg_of X G u, PySem.W.mg_of X G a, PySem.W.mg_none_of X G iso⟩


/-! ### the words of exceptions -/
def kAsgX (g : MG) (ρ : En) (nx : En → Prop) (rt : D → Prop) (d : D) : Prop := (∀ z, excOf d = some z → rt d) ∧ (excOf d = none → g d ρ nx)
def kNo (Q : D → Prop) (d : D) : Prop := excOf d = none ∧ Q d
def kTry (rt : D → Prop) (d : D) : Prop := match excOf d with
  | some z => rt (.str z)
  | none => rt d
section
variable {s : MS} {ρ : En} {nx bk ct : En → Prop} {rt Q : D → Prop} {m : En → M D} {g : MG} {F : List D → M D} {ds : List D} {d : D} {z : Str} {i : Int} {b : Bool}
theorem kAsgX_of (h : excOf d = none) (q : g d ρ nx) : kAsgX g ρ nx rt d := ⟨fun z e => (by rw [h] at e; cases e), fun _ => q⟩
theorem kAsgX_ex (q : rt (exD z)) : kAsgX g ρ nx rt (exD z) := ⟨fun _ _ => q, fun e => absurd e (by rw [excOf_exD]; simp)⟩
instance : Stp (sRaise z ρ ⟨nx, rt, bk, ct⟩) (rt (exD z)) := ⟨fun q => q⟩
instance : Stp (sAsgX m g ρ ⟨nx, rt, bk, ct⟩) (m ρ (kAsgX g ρ nx rt)) := ⟨fun q => q⟩
instance : Stp (kAsgX g ρ nx rt (.tuple ds)) (g (.tuple ds) ρ nx) := ⟨kAsgX_of rfl⟩
instance : Stp (kAsgX g ρ nx rt (.list ds)) (g (.list ds) ρ nx) := ⟨kAsgX_of rfl⟩
instance : Stp (kAsgX g ρ nx rt (exD z)) (rt (exD z)) := ⟨kAsgX_ex⟩
instance : Stp (noX F ds Q) (F ds (kNo Q)) := ⟨fun q => q⟩
instance : Stp (kNo Q (.tuple ds)) (Q (.tuple ds)) := ⟨fun q => ⟨rfl, q⟩⟩
instance : Stp (kNo Q (.list ds)) (Q (.list ds)) := ⟨fun q => ⟨rfl, q⟩⟩
instance : Stp (kNo Q (.int i)) (Q (.int i)) := ⟨fun q => ⟨rfl, q⟩⟩
instance : Stp (kNo Q (.bool b)) (Q (.bool b)) := ⟨fun q => ⟨rfl, q⟩⟩
instance : Stp (kNo Q (.str z)) (Q (.str z)) := ⟨fun q => ⟨rfl, q⟩⟩
instance : Stp (kNo Q .none) (Q .none) := ⟨fun q => ⟨rfl, q⟩⟩
instance : Stp (sTry s ρ ⟨nx, rt, bk, ct⟩) (s ρ ⟨nx, kTry rt, bk, ct⟩) := ⟨fun q => q⟩
instance : Stp (kTry rt (exD z)) (rt (.str z)) := ⟨fun q => q⟩
instance : Stp (kTry rt (.tuple ds)) (rt (.tuple ds)) := ⟨fun q => q⟩
instance : Stp (kTry rt (.list ds)) (rt (.list ds)) := ⟨fun q => q⟩
instance : Stp (kTry rt (.str z)) (rt (.str z)) := ⟨fun q => q⟩
end

/-! ### reading an own list: its length, a part -/
def eLenO (i : Nat) : En → M D := fun ρ Q => match ρ[i]? with
  | some (.ow ds) => Q (.int ds.length)
  | _ => False
def kIxO (ds : List D) (Q : D → Prop) (d : D) : Prop := match d with
  | .int j => match atI ds j with
    | some z => Q z
    | none => False
  | _ => False
def eIxO (i : Nat) (m : En → M D) : En → M D := fun ρ Q => match ρ[i]? with
  | some (.ow ds) => m ρ (kIxO ds Q)
  | _ => False
section
variable {X : Cx} {aw : Option Addr} {x : Str} {p p0 pos : Pos} {m : En → M D} {i : Nat} {b : Expr}
theorem se_lenO (hg : Gl X "len") (hm : X.mg "len" = none) (hv : PE X (.Name x p) (tVar i)) (he : starEach [.Name x p] X.env = (false, eval (.Name x p) X.env) :: starEach [] X.env := by rfl) (hpl : (backTo pos (starEach [] X.env)).any (·.1) = false := by rfl) : SE X aw (.Call (.Name "len" p0) [.Name x p] [] pos) (eLenO i) := by
  have hA : PA X [.Name x p] (tCons (tVar i) tNil) := pa_cons hv pa_nil (by rfl)
  refine pe_to (pe_callB call_len_seq hg hm PySem.boot_len hA (by decide) (by decide) he hpl) fun σ H R => ?_
  rintro ⟨G, B, ρ, Q, o, hq, k⟩
  unfold eLenO at hq
  split at hq
  · rename_i ds hd
    obtain ⟨a, xs, e, hx, r⟩ := getO_V o hd
    refine ⟨_, e, a, xs, rfl, .inl (.inl (.inl hx)), ?_⟩
    rw [r.length]
    exact k _ H _ (.refl _ _) o.wld (.int _) hq
  · cases hq
theorem se_ixO (hv : PE X (.Name x p) (tVar i)) (hb : SE X aw b m) (hs : PlainIx b := by exact fun _ _ => rfl) : SE X aw (.Subscript (.Name x p) b pos) (eIxO i m) := pe_to (pe_ix ix_seq hv hb hs) fun σ H R => by
  rintro ⟨G, B, ρ, Q, o, hq, k⟩
  unfold eIxO at hq
  split at hq
  · rename_i ds hd
    obtain ⟨a, xs, e, hx, r⟩ := getO_V o hd
    refine ⟨_, e, G, B, ρ, _, o, hq, fun y H1 d e1 w1 r1 q1 => ?_⟩
    have o1 := o.grow e1 w1
    obtain ⟨a', xs', e', hx', r'⟩ := getO_V o1 hd
    rw [e] at e'
    have ep : a = a' := by injection e' with e'; injection e' with e'; injection e'
    subst ep
    unfold kIxO at q1
    split at q1
    · cases r1
      split at q1
      · rename_i z hz
        obtain ⟨v, v1, v2⟩ := r'.atI hz
        exact .inl ⟨_, _, _, v, rfl, rfl, .inl (.inl hx'), v1, k v H1 z e1 w1 v2 q1⟩
      · cases q1
    · cases q1
  · cases hq
end
section
variable {ρ : En} {Q : D → Prop} {m : En → M D} {i : Nat} {ds : List D} {d z : D} {j : Int}
theorem w_lenO (h : ρ[i]? = some (.ow ds)) (q : Q (.int ds.length)) : eLenO i ρ Q := by unfold eLenO; rw [h]; exact q
theorem w_ixO (h : ρ[i]? = some (.ow ds)) (q : m ρ (kIxO ds Q)) : eIxO i m ρ Q := by unfold eIxO; rw [h]; exact q
theorem w_kIxO (h : atI ds j = some z) (q : Q z) : kIxO ds Q (.int j) := by unfold kIxO; simp only [h]; exact q
instance [h : LkR ρ i (.ow ds)] : Stp (eLenO i ρ Q) (Q (.int ds.length)) := ⟨w_lenO h.e⟩
instance [h : LkR ρ i (.ow ds)] : Stp (eIxO i m ρ Q) (m ρ (kIxO ds Q)) := ⟨w_ixO h.e⟩
end

/-! ### tuples put together -/
def fCatT : D → D → M D := fun x y Q => match x, y with
  | .tuple a, .tuple b => a ≠ [] ∧ b ≠ [] ∧ a.length + b.length ≤ 100000 ∧ Q (.tuple (a ++ b))
  | _, _ => False
section
variable {K : PySem.W.Frag} {aw : Option Addr}
theorem rpA_nil_of {H : Hp} {vs : List V} {ds : List D} (r : RpA K aw H vs ds) (h : ds ≠ []) : vs ≠ [] := fun z => by
  subst z
  cases r
  exact h rfl
theorem ok_catT : OpOk K aw (rCatT K) fCatT := by
  intro H B x y d e Q R w hB rx ry q k
  unfold fCatT at q
  split at q
  · rename_i a b
    cases rx with
    | tup h1 r1 =>
    cases ry with
    | tup h2 r2 =>
    refine ⟨_, _, _, _, rfl, rfl, sqT_less h1, sqT_less h2, rpA_nil_of r1 q.1, by rw [r1.length, r2.length]; exact le_line q.2.2.1, fun z => (rpA_nil_of r2 q.2.1 z).elim, fun _ p hp => ?_⟩
    exact k _ _ _ (.new hp) (w.fresh hp) (.tup (.inl (.inl (new_cut hp hB))) (rpA_new w hp (r1.app r2))) q.2.2.2
  · cases q
end
section
variable {X : Cx} {aw : Option Addr} {a b c : Expr} {m n l : En → M D} {pos : Pos}
theorem se_catT (ha : SE X aw a m) (hb : SE X aw b n) : SE X aw (.BinOp a .Add b pos) (eOp fCatT m n) := se_op op_catT ok_catT ha hb
end
section
variable {ds es : List D} {d e : D} {Q : D → Prop}
theorem w_catT (h : (d :: ds).length + (e :: es).length ≤ 100000) (q : Q (.tuple (d :: ds ++ e :: es))) : fCatT (.tuple (d :: ds)) (.tuple (e :: es)) Q := ⟨by simp, by simp, h, q⟩
end


/-! ### reals, as far as they are needed: rows of fractions that draw together -/
structure Cs where
  f : Nat → Rat
  bd : ∃ B : Rat, 0 < B ∧ ∀ n, -B ≤ f n ∧ f n ≤ B
  cau : ∀ ε : Rat, 0 < ε → ∃ N, ∀ m n, N ≤ m → N ≤ n → f m - f n ≤ ε
namespace Cs
theorem max_le {M N n : Nat} (h : M + N ≤ n) : M ≤ n ∧ N ≤ n := ⟨by omega, by omega⟩
def cst (q : Rat) : Cs := ⟨fun _ => q, ⟨(if q < 0 then -q else q) + 1, by grind, fun _ => by grind⟩, fun ε h => ⟨0, fun _ _ _ _ => by grind⟩⟩
def add (x y : Cs) : Cs := ⟨fun n => x.f n + y.f n, by
  obtain ⟨B, hB, h⟩ := x.bd
  obtain ⟨C, hC, g⟩ := y.bd
  exact ⟨B + C, by grind, fun n => by have := h n; have := g n; grind⟩, fun ε hε => by
  obtain ⟨N, h⟩ := x.cau (ε / 2) (by grind)
  obtain ⟨M, g⟩ := y.cau (ε / 2) (by grind)
  refine ⟨N + M, fun m n hm hn => ?_⟩
  have := h m n (by omega) (by omega)
  have := g m n (by omega) (by omega)
  grind⟩
def neg (x : Cs) : Cs := ⟨fun n => -x.f n, by
  obtain ⟨B, hB, h⟩ := x.bd
  exact ⟨B, hB, fun n => by have := h n; grind⟩, fun ε hε => by
  obtain ⟨N, h⟩ := x.cau ε hε
  exact ⟨N, fun m n hm hn => by have := h n m hn hm; grind⟩⟩
theorem mul_bd {a b B C : Rat} (hB : 0 < B) (hC : 0 < C) (h1 : -B ≤ a) (h2 : a ≤ B) (h3 : -C ≤ b) (h4 : b ≤ C) : -(B * C) ≤ a * b ∧ a * b ≤ B * C := by
  have e1 : 0 ≤ (B - a) * (C + b) := Rat.mul_nonneg (by grind) (by grind)
  have e2 : 0 ≤ (B + a) * (C - b) := Rat.mul_nonneg (by grind) (by grind)
  have e3 : 0 ≤ (B - a) * (C - b) := Rat.mul_nonneg (by grind) (by grind)
  have e4 : 0 ≤ (B + a) * (C + b) := Rat.mul_nonneg (by grind) (by grind)
  constructor <;> grind
def mul (x y : Cs) : Cs := ⟨fun n => x.f n * y.f n, by
  obtain ⟨B, hB, h⟩ := x.bd
  obtain ⟨C, hC, g⟩ := y.bd
  exact ⟨B * C, Rat.mul_pos hB hC, fun n => mul_bd hB hC (h n).1 (h n).2 (g n).1 (g n).2⟩, fun ε hε => by
  obtain ⟨B, hB, hb⟩ := x.bd
  obtain ⟨C, hC, gb⟩ := y.bd
  have hd : 0 < ε / (2 * (B + C)) := by
    rw [Rat.div_def]
    exact Rat.mul_pos hε (Rat.inv_pos.mpr (by grind))
  obtain ⟨N, h⟩ := x.cau (ε / (2 * (B + C))) hd
  obtain ⟨M, g⟩ := y.cau (ε / (2 * (B + C))) hd
  refine ⟨N + M, fun m n hm hn => ?_⟩
  have h1 := h m n (by omega) (by omega)
  have h2 := h n m (by omega) (by omega)
  have g1 := g m n (by omega) (by omega)
  have g2 := g n m (by omega) (by omega)
  generalize hδ : ε / (2 * (B + C)) = δ at *
  have e : δ * (2 * (B + C)) = ε := by rw [← hδ]; exact Rat.div_mul_cancel (by grind)
  have k1 := (mul_bd hB hd (hb m).1 (hb m).2 (show -δ ≤ y.f m - y.f n by grind) g1).2
  have k2 := (mul_bd hC hd (gb n).1 (gb n).2 (show -δ ≤ x.f m - x.f n by grind) h1).2
  have e2 : x.f m * y.f m - x.f n * y.f n = x.f m * (y.f m - y.f n) + y.f n * (x.f m - x.f n) := by grind
  rw [e2]
  grind⟩
def Pos (x : Cs) : Prop := ∃ ε : Rat, 0 < ε ∧ ∃ N, ∀ n, N ≤ n → ε ≤ x.f n
def Null (x : Cs) : Prop := ∀ ε : Rat, 0 < ε → ∃ N, ∀ n, N ≤ n → -ε ≤ x.f n ∧ x.f n ≤ ε
theorem tri (x : Cs) : Pos x ∨ Null x ∨ Pos (neg x) := by
  by_cases h : Null x
  · exact .inr (.inl h)
  unfold Null at h
  simp only [Classical.not_forall] at h
  obtain ⟨ε, hε, h⟩ := h
  obtain ⟨N, c⟩ := x.cau (ε / 2) (by grind)
  have h2 : ∃ n, N ≤ n ∧ ¬ (-ε ≤ x.f n ∧ x.f n ≤ ε) := by
    refine Classical.byContradiction fun z => h ⟨N, fun n hn => ?_⟩
    exact Classical.byContradiction fun y => z ⟨n, hn, y⟩
  obtain ⟨n, hn, h3⟩ := h2
  by_cases h4 : x.f n ≤ ε
  · refine .inr (.inr ⟨ε / 2, by grind, N, fun m hm => ?_⟩)
    show ε / 2 ≤ -x.f m
    have := c m n hm hn
    have := c n m hn hm
    grind
  · refine .inl ⟨ε / 2, by grind, N, fun m hm => ?_⟩
    have := c m n hm hn
    have := c n m hn hm
    grind
theorem pos_null {x : Cs} (h : Pos x) : ¬ Null x := fun g => by
  obtain ⟨ε, hε, N, h⟩ := h
  obtain ⟨M, g⟩ := g (ε / 2) (by grind)
  have := h (N + M) (by omega)
  have := (g (N + M) (by omega)).2
  grind
theorem pos_neg {x : Cs} (h : Pos x) : ¬ Pos (neg x) := fun g => by
  obtain ⟨ε, hε, N, h⟩ := h
  obtain ⟨δ, hδ, M, g⟩ := g
  have := h (N + M) (by omega)
  have : δ ≤ -x.f (N + M) := g (N + M) (by omega)
  grind
theorem pos_add {x y : Cs} (h : Pos x) (g : Pos y) : Pos (add x y) := by
  obtain ⟨ε, hε, N, h⟩ := h
  obtain ⟨δ, hδ, M, g⟩ := g
  refine ⟨ε + δ, by grind, N + M, fun n hn => ?_⟩
  show ε + δ ≤ x.f n + y.f n
  have := h n (by omega)
  have := g n (by omega)
  grind
theorem pos_mul {x y : Cs} (h : Pos x) (g : Pos y) : Pos (mul x y) := by
  obtain ⟨ε, hε, N, h⟩ := h
  obtain ⟨δ, hδ, M, g⟩ := g
  refine ⟨ε * δ, Rat.mul_pos hε hδ, N + M, fun n hn => ?_⟩
  show ε * δ ≤ x.f n * y.f n
  have h1 := h n (by omega)
  have g1 := g n (by omega)
  have e1 : 0 ≤ (x.f n - ε) * δ := Rat.mul_nonneg (by grind) (by grind)
  have e2 : 0 ≤ x.f n * (y.f n - δ) := Rat.mul_nonneg (by grind) (by grind)
  grind
theorem pos_of {x y : Cs} (h : Pos x) (g : Null (add x (neg y))) : Pos y := by
  obtain ⟨ε, hε, N, h⟩ := h
  obtain ⟨M, g⟩ := g (ε / 2) (by grind)
  refine ⟨ε / 2, by grind, N + M, fun n hn => ?_⟩
  have := h n (by omega)
  have : x.f n + -y.f n ≤ ε / 2 := (g n (by omega)).2
  grind
theorem null_of {x y : Cs} (e : ∀ n, x.f n = y.f n) : Null (add x (neg y)) := fun ε hε => ⟨0, fun n _ => by
  have : (add x (neg y)).f n = x.f n + -y.f n := rfl
  rw [this, e n]
  grind⟩
theorem null_neg {x : Cs} (h : Null x) : Null (neg x) := fun ε hε => by
  obtain ⟨N, h⟩ := h ε hε
  refine ⟨N, fun n hn => ?_⟩
  have := h n hn
  show -ε ≤ -x.f n ∧ -x.f n ≤ ε
  grind
theorem null_add {x y : Cs} (h : Null x) (g : Null y) : Null (add x y) := fun ε hε => by
  obtain ⟨N, h⟩ := h (ε / 2) (by grind)
  obtain ⟨M, g⟩ := g (ε / 2) (by grind)
  refine ⟨N + M, fun n hn => ?_⟩
  have := h n (by omega)
  have := g n (by omega)
  show -ε ≤ x.f n + y.f n ∧ x.f n + y.f n ≤ ε
  grind
theorem null_mul {x y : Cs} (h : Null x) : Null (mul x y) := fun ε hε => by
  obtain ⟨B, hB, hb⟩ := y.bd
  have hd : 0 < ε / B := by
    rw [Rat.div_def]
    exact Rat.mul_pos hε (Rat.inv_pos.mpr hB)
  obtain ⟨N, h⟩ := h (ε / B) hd
  refine ⟨N, fun n hn => ?_⟩
  have e : ε / B * B = ε := Rat.div_mul_cancel (by grind)
  have := mul_bd hd hB (h n hn).1 (h n hn).2 (hb n).1 (hb n).2
  rw [e] at this
  exact this
theorem null_congr {x y : Cs} (h : Null x) (e : ∀ n, x.f n = y.f n) : Null y := fun ε hε => by
  obtain ⟨N, h⟩ := h ε hε
  exact ⟨N, fun n hn => by rw [← e n]; exact h n hn⟩
instance st : Setoid Cs where
  r x y := Null (add x (neg y))
  iseqv := ⟨fun x => null_of fun _ => rfl, fun {x y} h => null_congr (null_neg h) fun n => by show -(x.f n + -y.f n) = y.f n + -x.f n; grind, fun {x y z} h g => null_congr (null_add h g) fun n => by
    show x.f n + -y.f n + (y.f n + -z.f n) = x.f n + -z.f n
    grind⟩
theorem add_congr {x x' y y' : Cs} (h : x ≈ x') (g : y ≈ y') : add x y ≈ add x' y' := null_congr (null_add h g) fun n => by
  show x.f n + -x'.f n + (y.f n + -y'.f n) = x.f n + y.f n + -(x'.f n + y'.f n)
  grind
theorem neg_congr {x x' : Cs} (h : x ≈ x') : neg x ≈ neg x' := null_congr (null_neg h) fun n => by
  show -(x.f n + -x'.f n) = -x.f n + -(-x'.f n)
  grind
theorem mul_congr {x x' y y' : Cs} (h : x ≈ x') (g : y ≈ y') : mul x y ≈ mul x' y' := null_congr (null_add (null_mul (y := y) h) (null_mul (y := x') g)) fun n => by
  show (x.f n + -x'.f n) * y.f n + (y.f n + -y'.f n) * x'.f n = x.f n * y.f n + -(x'.f n * y'.f n)
  grind
theorem pos_congr {x y : Cs} (h : x ≈ y) : Pos x = Pos y := propext ⟨fun a => pos_of a h, fun a => pos_of a (st.iseqv.symm h)⟩
end Cs
def Rl : Type := Quotient Cs.st
namespace Rl
def mk (x : Cs) : Rl := Quotient.mk _ x
theorem ind {P : Rl → Prop} (h : ∀ x, P (mk x)) : ∀ x, P x := fun x => Quotient.ind h x
theorem eq_of {x y : Cs} (e : ∀ n, x.f n = y.f n) : mk x = mk y := Quotient.sound (Cs.null_of e)
def q (r : Rat) : Rl := mk (Cs.cst r)
def add : Rl → Rl → Rl := Quotient.lift₂ (fun x y => mk (Cs.add x y)) fun _ _ _ _ h g => Quotient.sound (Cs.add_congr h g)
def mul : Rl → Rl → Rl := Quotient.lift₂ (fun x y => mk (Cs.mul x y)) fun _ _ _ _ h g => Quotient.sound (Cs.mul_congr h g)
def neg : Rl → Rl := Quotient.lift (fun x => mk (Cs.neg x)) fun _ _ h => Quotient.sound (Cs.neg_congr h)
def Pos : Rl → Prop := Quotient.lift Cs.Pos fun _ _ h => Cs.pos_congr h
def lt (x y : Rl) : Prop := Pos (add y (neg x))
instance : LT Rl := ⟨lt⟩
instance : LE Rl := ⟨fun x y => ¬ lt y x⟩
def npow (x : Rl) : Nat → Rl
  | 0 => q 1
  | n + 1 => mul (npow x n) x
instance : Lean.Grind.CommRing Rl where
  add := add
  mul := mul
  neg := neg
  sub x y := add x (neg y)
  natCast := ⟨fun n => q n⟩
  intCast := ⟨fun n => q n⟩
  ofNat n := ⟨q n⟩
  nsmul := ⟨fun n x => mul (q n) x⟩
  zsmul := ⟨fun n x => mul (q n) x⟩
  npow := ⟨npow⟩
  add_zero := ind fun x => eq_of fun n => by show x.f n + ((0 : Nat) : Rat) = x.f n; grind
  add_comm := ind fun x => ind fun y => eq_of fun n => by show x.f n + y.f n = y.f n + x.f n; grind
  add_assoc := ind fun x => ind fun y => ind fun z => eq_of fun n => by show x.f n + y.f n + z.f n = x.f n + (y.f n + z.f n); grind
  mul_assoc := ind fun x => ind fun y => ind fun z => eq_of fun n => by show x.f n * y.f n * z.f n = x.f n * (y.f n * z.f n); grind
  mul_comm := ind fun x => ind fun y => eq_of fun n => by show x.f n * y.f n = y.f n * x.f n; grind
  mul_one := ind fun x => eq_of fun n => by show x.f n * ((1 : Nat) : Rat) = x.f n; grind
  one_mul := ind fun x => eq_of fun n => by show ((1 : Nat) : Rat) * x.f n = x.f n; grind
  left_distrib := ind fun x => ind fun y => ind fun z => eq_of fun n => by show x.f n * (y.f n + z.f n) = x.f n * y.f n + x.f n * z.f n; grind
  right_distrib := ind fun x => ind fun y => ind fun z => eq_of fun n => by show (x.f n + y.f n) * z.f n = x.f n * z.f n + y.f n * z.f n; grind
  zero_mul := ind fun x => eq_of fun n => by show ((0 : Nat) : Rat) * x.f n = ((0 : Nat) : Rat); grind
  mul_zero := ind fun x => eq_of fun n => by show x.f n * ((0 : Nat) : Rat) = ((0 : Nat) : Rat); grind
  pow_zero x := eq_of fun n => by show (1 : Rat) = ((1 : Nat) : Rat); rfl
  pow_succ x n := rfl
  ofNat_succ n := eq_of fun _ => by show ((n + 1 : Nat) : Rat) = (n : Rat) + ((1 : Nat) : Rat); rw [Rat.natCast_add]
  neg_add_cancel := ind fun x => eq_of fun n => by show -x.f n + x.f n = ((0 : Nat) : Rat); grind
  sub_eq_add_neg _ _ := rfl
  neg_zsmul i := ind fun x => eq_of fun n => by show ((-i : Int) : Rat) * x.f n = -((i : Rat) * x.f n); rw [Rat.intCast_neg]; grind
  intCast_neg i := eq_of fun n => by show ((-i : Int) : Rat) = -(i : Rat); rw [Rat.intCast_neg]
theorem lt_def (x y : Rl) : x < y ↔ Pos (y - x) := Iff.rfl
theorem le_def (x y : Rl) : x ≤ y ↔ ¬ y < x := Iff.rfl
theorem tri (x : Rl) : Pos x ∨ x = 0 ∨ Pos (-x) := by
  revert x
  refine ind fun x => ?_
  rcases Cs.tri x with h | h | h
  · exact .inl h
  · refine .inr (.inl (Quotient.sound ?_))
    exact Cs.null_congr h fun n => by show x.f n = x.f n + -((0 : Nat) : Rat); grind
  · exact .inr (.inr h)
theorem pos_neg {x : Rl} : Pos x → ¬ Pos (-x) := ind (P := fun x => Pos x → ¬ Pos (-x)) (fun x => Cs.pos_neg) x
theorem pos_zero : ¬ Pos (0 : Rl) := fun h => by
  have := pos_neg h
  rw [show -(0 : Rl) = 0 by grind] at this
  exact this h
theorem pos_add {x y : Rl} : Pos x → Pos y → Pos (x + y) := ind (P := fun x => ∀ y, Pos x → Pos y → Pos (x + y)) (fun x => ind fun y => Cs.pos_add) x y
theorem pos_mul {x y : Rl} : Pos x → Pos y → Pos (x * y) := ind (P := fun x => ∀ y, Pos x → Pos y → Pos (x * y)) (fun x => ind fun y => Cs.pos_mul) x y
theorem lt_tri (x y : Rl) : x < y ∨ x = y ∨ y < x := by
  rcases tri (y - x) with h | h | h
  · exact .inl h
  · exact .inr (.inl (by grind))
  · refine .inr (.inr ?_)
    rw [lt_def, show x - y = -(y - x) by grind]
    exact h
theorem lt_irrefl (x : Rl) : ¬ x < x := fun h => by
  rw [lt_def, show x - x = 0 by grind] at h
  exact pos_zero h
theorem lt_trans {x y z : Rl} (h : x < y) (g : y < z) : x < z := by
  rw [lt_def] at *
  have := pos_add h g
  rw [show y - x + (z - y) = z - x by grind] at this
  exact this
theorem lt_asymm {x y : Rl} (h : x < y) : ¬ y < x := fun g => lt_irrefl x (lt_trans h g)
theorem le_iff {x y : Rl} : x ≤ y ↔ x < y ∨ x = y := by
  rw [le_def]
  constructor
  · intro h
    rcases lt_tri x y with a | a | a
    · exact .inl a
    · exact .inr a
    · exact (h a).elim
  · rintro (h | rfl)
    · exact lt_asymm h
    · exact lt_irrefl x
instance : Std.IsLinearOrder Rl where
  le_refl x := lt_irrefl x
  le_trans x y z h g := by
    rcases le_iff.mp h with h | rfl
    · rcases le_iff.mp g with g | rfl
      · exact le_iff.mpr (.inl (lt_trans h g))
      · exact le_iff.mpr (.inl h)
    · exact g
  le_antisymm x y h g := by
    rcases lt_tri x y with a | a | a
    · exact (g a).elim
    · exact a
    · exact (h a).elim
  le_total x y := by
    rcases lt_tri x y with a | a | a
    · exact .inl (le_iff.mpr (.inl a))
    · exact .inl (le_iff.mpr (.inr a))
    · exact .inr (le_iff.mpr (.inl a))
instance : Std.LawfulOrderLT Rl where
  lt_iff x y := ⟨fun h => ⟨lt_asymm h, fun g => g h⟩, fun h => Classical.byContradiction fun z => h.2 z⟩
theorem add_lt {x y : Rl} (z : Rl) : x < y ↔ x + z < y + z := by
  rw [lt_def, lt_def, show y + z - (x + z) = y - x by grind]
instance : Lean.Grind.OrderedAdd Rl where
  add_le_left_iff {x y} z := by rw [le_def, le_def, add_lt z]
theorem mul_lt {x y z : Rl} (h : x < y) (hz : 0 < z) : z * x < z * y := by
  rw [lt_def] at *
  rw [show z - 0 = z by grind] at hz
  rw [show z * y - z * x = z * (y - x) by grind]
  exact pos_mul hz h
theorem q_pos {r : Rat} : Pos (q r) ↔ 0 < r := by
  constructor
  · rintro ⟨ε, hε, N, h⟩
    have : ε ≤ r := h N (Nat.le_refl _)
    grind
  · intro h
    exact ⟨r, h, 0, fun _ _ => Rat.le_refl⟩
theorem q_add (r s : Rat) : q (r + s) = q r + q s := eq_of fun _ => rfl
theorem q_mul (r s : Rat) : q (r * s) = q r * q s := eq_of fun _ => rfl
theorem q_neg (r : Rat) : q (-r) = -q r := eq_of fun _ => rfl
theorem q_sub (r s : Rat) : q (r - s) = q r - q s := eq_of fun _ => by show r - s = r + -s; grind
theorem q_nat (n : Nat) : q ((n : Nat) : Rat) = ((OfNat.ofNat n : Rl)) := rfl
theorem q_zero : q 0 = 0 := rfl
theorem q_one : q 1 = 1 := rfl
theorem q_two : q 2 = 2 := rfl
instance : Lean.Grind.OrderedRing Rl where
  zero_lt_one := by
    rw [lt_def, ← q_one, ← q_zero, ← q_sub]
    exact q_pos.mpr (by grind)
  mul_lt_mul_of_pos_left := mul_lt
  mul_lt_mul_of_pos_right {a b c} h hz := by
    have := mul_lt h hz
    rw [show a * c = c * a by grind, show b * c = c * b by grind]
    exact this
theorem q_lt {r s : Rat} : q r < q s ↔ r < s := by
  rw [lt_def, ← q_sub, q_pos]
  grind
theorem q_le {r s : Rat} : q r ≤ q s ↔ r ≤ s := by
  rw [le_def, q_lt]
  grind
theorem q_inj {r s : Rat} : q r = q s ↔ r = s := by
  constructor
  · intro h
    have h1 : q r ≤ q s := by grind
    have h2 : q s ≤ q r := by grind
    rw [q_le] at h1 h2
    grind
  · intro h; rw [h]
end Rl

/-! ### square roots of fractions -/
namespace Cs
theorem root_ex (t : Rat) (h : 0 ≤ t) : ∃ k : Nat, (k : Rat) * (k : Rat) ≤ t ∧ t < ((k : Rat) + 1) * ((k : Rat) + 1) := by
  have key : ∀ N : Nat, t < (N : Rat) * (N : Rat) → ∃ k : Nat, (k : Rat) * (k : Rat) ≤ t ∧ t < ((k : Rat) + 1) * ((k : Rat) + 1) := by
    intro N
    induction N with
    | zero => intro z; grind
    | succ N ih =>
      intro z
      by_cases g : t < (N : Rat) * (N : Rat)
      · exact ih g
      · exact ⟨N, by grind, by rw [Rat.natCast_add] at z; exact z⟩
  refine key (t.num.natAbs + 1) ?_
  have e : t ≤ (t.num.natAbs : Rat) := by
    rw [Rat.le_iff]
    have h1 : 0 ≤ t.num := Rat.num_nonneg.mpr h
    show t.num * 1 ≤ ((t.num.natAbs : Nat) : Int) * (t.den : Int)
    have h2 : ((t.num.natAbs : Nat) : Int) = t.num := by omega
    rw [h2]
    exact Int.mul_le_mul_of_nonneg_left (by have := t.den_pos; omega) h1
  have n0 : (0 : Rat) ≤ (t.num.natAbs : Rat) := by grind
  rw [Rat.natCast_add]
  generalize ((t.num.natAbs : Nat) : Rat) = M at *
  have e2 : 0 ≤ M * M := Rat.mul_nonneg n0 n0
  have e3 : ((1 : Nat) : Rat) = 1 := rfl
  rw [e3]
  grind
def hf : Nat → Rat
  | 0 => 1
  | n + 1 => hf n / 2
theorem hf_pos : ∀ n, 0 < hf n
  | 0 => by show (0 : Rat) < 1; grind
  | n + 1 => by have := hf_pos n; show 0 < hf n / 2; grind
theorem hf_le : ∀ {m n : Nat}, m ≤ n → hf n ≤ hf m := by
  intro m n h
  induction n with
  | zero => rw [show m = 0 by omega]; grind
  | succ n ih =>
    by_cases e : m = n + 1
    · rw [e]; grind
    · have := ih (by omega)
      have := hf_pos n
      show hf n / 2 ≤ hf m
      grind
theorem hf_small (ε : Rat) (h : 0 < ε) : ∃ N, hf N ≤ ε := by
  have key : ∀ n : Nat, hf n * ((n : Rat) + 1) ≤ 1 := by
    intro n
    induction n with
    | zero => show (1 : Rat) * ((0 : Nat) + 1 : Rat) ≤ 1; grind
    | succ n ih =>
      have h1 := hf_pos n
      have h2 : (0 : Rat) ≤ (n : Rat) := by grind
      have h3 : 0 ≤ hf n * (n : Rat) := Rat.mul_nonneg (by grind) h2
      show hf n / 2 * (((n + 1 : Nat) : Rat) + 1) ≤ 1
      rw [Rat.natCast_add]
      have e3 : ((1 : Nat) : Rat) = 1 := rfl
      rw [e3]
      generalize hf n = x at *
      generalize (n : Rat) = y at *
      grind
  have h1 := key ε.den
  have h2 : 1 ≤ ε * (ε.den : Rat) := by
    have h4 : ε * (ε.den : Rat) = (ε.num : Rat) := by
      have h5 := Rat.num_divInt_den ε
      rw [Rat.divInt_eq_div] at h5
      have h6 : ((ε.den : Int) : Rat) ≠ 0 := fun z => ε.den_nz (by rw [Rat.intCast_eq_zero_iff] at z; omega)
      have h7 := Rat.div_mul_cancel (a := (ε.num : Rat)) h6
      rw [h5] at h7
      exact h7
    rw [h4]
    have h8 : 0 ≤ ε.num := Rat.num_nonneg.mpr (by grind)
    have h9 : ε.num ≠ 0 := fun z => by
      have := Rat.num_eq_zero.mp z
      grind
    have h10 : (1 : Int) ≤ ε.num := by omega
    exact Rat.intCast_le_intCast.mpr h10
  refine ⟨ε.den, ?_⟩
  have h3 := hf_pos ε.den
  have h4 : (0 : Rat) ≤ (ε.den : Rat) := by grind
  generalize hf ε.den = x at *
  generalize (ε.den : Rat) = y at *
  refine Classical.byContradiction fun z => ?_
  have h5 : ε < x := by grind
  have h6 : 0 ≤ (x - ε) * y := Rat.mul_nonneg (by grind) h4
  grind
theorem hf_le1 (n : Nat) : hf n ≤ 1 := hf_le (Nat.zero_le n)
theorem lt_of_sq {a b : Rat} (ha : 0 ≤ a) (hb : 0 ≤ b) (h : a * a < b * b) : a < b := by
  refine Classical.byContradiction fun z => ?_
  have h1 : 0 ≤ (a - b) * (a + b) := Rat.mul_nonneg (by grind) (by grind)
  grind
/-- fractions whose squares come near c from below -/
theorem near_ex (c : Rat) (h : 0 ≤ c) (n : Nat) : ∃ s : Rat, 0 ≤ s ∧ s * s ≤ c ∧ c < (s + hf n) * (s + hf n) := by
  have hp := hf_pos n
  have hq : 0 < (hf n)⁻¹ := Rat.inv_pos.mpr hp
  have hi : hf n * (hf n)⁻¹ = 1 := Rat.mul_inv_cancel _ (by grind)
  have h0 : 0 ≤ c * ((hf n)⁻¹ * (hf n)⁻¹) := Rat.mul_nonneg h (Rat.mul_nonneg (by grind) (by grind))
  obtain ⟨k, k1, k2⟩ := root_ex _ h0
  have hk : (0 : Rat) ≤ (k : Rat) := by grind
  have hp2 : 0 < hf n * hf n := Rat.mul_pos hp hp
  generalize hf n = x at *
  generalize x⁻¹ = y at *
  generalize (k : Rat) = m at *
  have e1 := Rat.mul_le_mul_of_nonneg_right k1 (show 0 ≤ x * x by grind)
  have e2 := Rat.mul_lt_mul_of_pos_right k2 hp2
  have e3 : c * (y * y) * (x * x) = c := by
    have : c * (y * y) * (x * x) = c * ((x * y) * (x * y)) := by grind
    rw [this, hi]; grind
  rw [e3] at e1 e2
  exact ⟨m * x, Rat.mul_nonneg hk (by grind), by grind, by grind⟩
noncomputable def nr (c : Rat) (n : Nat) : Rat := if h : 0 ≤ c then (near_ex c h n).choose else 0
theorem nr_spec {c : Rat} (h : 0 ≤ c) (n : Nat) : 0 ≤ nr c n ∧ nr c n * nr c n ≤ c ∧ c < (nr c n + hf n) * (nr c n + hf n) := by
  unfold nr
  rw [dif_pos h]
  exact (near_ex c h n).choose_spec
theorem nr_le {c : Rat} (h : 0 ≤ c) (n : Nat) : nr c n ≤ c + 1 := by
  obtain ⟨h1, h2, _⟩ := nr_spec h n
  have : nr c n * nr c n < (c + 1) * (c + 1) := by
    have : 0 ≤ c * c := Rat.mul_nonneg h h
    grind
  have := lt_of_sq h1 (by grind) this
  grind
noncomputable def root (c : Rat) (h : 0 ≤ c) : Cs := ⟨nr c, ⟨c + 1, by grind, fun n => ⟨by have := (nr_spec h n).1; grind, nr_le h n⟩⟩, fun ε hε => by
  obtain ⟨N, hN⟩ := hf_small ε hε
  refine ⟨N, fun m n _ hn => ?_⟩
  obtain ⟨a1, a2, _⟩ := nr_spec h m
  obtain ⟨b1, _, b3⟩ := nr_spec h n
  have := hf_pos n
  have := lt_of_sq a1 (show 0 ≤ nr c n + hf n by grind) (by grind)
  have := hf_le hn
  grind⟩
end Cs
namespace Rl
/-- the root of a fraction that is not below nothing -/
noncomputable def sq (c : Rat) : Rl := if h : 0 ≤ c then mk (Cs.root c h) else 0
theorem sq_nonneg (c : Rat) : 0 ≤ sq c := by
  unfold sq
  split
  · rename_i h
    intro z
    obtain ⟨ε, hε, N, z⟩ := (show Pos (0 - mk (Cs.root c h)) from z)
    have : ε ≤ ((0 : Nat) : Rat) + -Cs.nr c N := z N (Nat.le_refl _)
    have := (Cs.nr_spec h N).1
    grind
  · grind
theorem sq_mul {c : Rat} (h : 0 ≤ c) : sq c * sq c = q c := by
  unfold sq
  rw [dif_pos h]
  refine Quotient.sound fun ε hε => ?_
  have hd : 0 < ε / (2 * c + 3) := by
    rw [Rat.div_def]
    exact Rat.mul_pos hε (Rat.inv_pos.mpr (by grind))
  obtain ⟨N, hN⟩ := Cs.hf_small _ hd
  refine ⟨N, fun n hn => ?_⟩
  show -ε ≤ Cs.nr c n * Cs.nr c n + -c ∧ Cs.nr c n * Cs.nr c n + -c ≤ ε
  obtain ⟨b1, b2, b3⟩ := Cs.nr_spec h n
  have h1 := Cs.nr_le h n
  have h2 := Cs.hf_pos n
  have h3 := Cs.hf_le1 n
  have h4 := Cs.hf_le hn
  have e : ε / (2 * c + 3) * (2 * c + 3) = ε := Rat.div_mul_cancel (by grind)
  generalize ε / (2 * c + 3) = δ at *
  generalize Cs.nr c n = s at *
  generalize Cs.hf n = x at *
  have k1 : 0 ≤ (c + 1 - s) * x := Rat.mul_nonneg (by grind) (by grind)
  have k2 : 0 ≤ (1 - x) * x := Rat.mul_nonneg (by grind) (by grind)
  have k3 : 0 ≤ (δ - x) * (2 * c + 3) := Rat.mul_nonneg (by grind) (by grind)
  constructor <;> grind
end Rl


/-! ### signs -/
def sgn (r : Rat) : Int := r.num.sign
theorem sgn_pos {r : Rat} (h : 0 < r) : sgn r = 1 := by
  refine Int.sign_eq_one_of_pos ?_
  have h1 : 0 ≤ r.num := Rat.num_nonneg.mpr (by grind)
  have h2 : r.num ≠ 0 := fun z => by
    have := Rat.num_eq_zero.mp z
    grind
  omega
theorem sgn_neg' (r : Rat) : sgn (-r) = -sgn r := by
  unfold sgn
  rw [Rat.neg_num, Int.sign_neg]
theorem sgn_neg {r : Rat} (h : r < 0) : sgn r = -1 := by
  have := sgn_pos (r := -r) (by grind)
  rw [sgn_neg'] at this
  omega
theorem sgn_zero : sgn 0 = 0 := rfl
noncomputable def sr (x : Rl) : Int := open Classical in if 0 < x then 1 else if x = 0 then 0 else -1
theorem sr_pos {x : Rl} (h : 0 < x) : sr x = 1 := by unfold sr; rw [if_pos h]
theorem sr_zero : sr 0 = 0 := by
  unfold sr
  rw [if_neg (by grind), if_pos rfl]
theorem sr_neg {x : Rl} (h : x < 0) : sr x = -1 := by
  unfold sr
  rw [if_neg (by grind), if_neg (by grind)]
theorem sr_cases (x : Rl) : (sr x = 1 ∧ 0 < x) ∨ (sr x = 0 ∧ x = 0) ∨ (sr x = -1 ∧ x < 0) := by
  rcases Rl.lt_tri 0 x with h | h | h
  · exact .inl ⟨sr_pos h, h⟩
  · exact .inr (.inl ⟨by rw [← h]; exact sr_zero, h.symm⟩)
  · exact .inr (.inr ⟨sr_neg h, h⟩)
theorem Rl.mul_pos {x y : Rl} (h : 0 < x) (g : 0 < y) : 0 < x * y := by
  have := Rl.mul_lt g h
  grind
theorem sr_mul (x y : Rl) : sr (x * y) = sr x * sr y := by
  rcases sr_cases x with ⟨e, h⟩ | ⟨e, h⟩ | ⟨e, h⟩
  · rcases sr_cases y with ⟨e2, g⟩ | ⟨e2, g⟩ | ⟨e2, g⟩
    · rw [e, e2, sr_pos (Rl.mul_pos h g)]; rfl
    · rw [e, e2, g, show x * 0 = 0 by grind, sr_zero]; rfl
    · rw [e, e2, sr_neg (by have := Rl.mul_pos h (y := -y) (by grind); grind)]; rfl
  · rw [e, h, show 0 * y = 0 by grind, sr_zero, Int.zero_mul]
  · rcases sr_cases y with ⟨e2, g⟩ | ⟨e2, g⟩ | ⟨e2, g⟩
    · rw [e, e2, sr_neg (by have := Rl.mul_pos (x := -x) (by grind) g; grind)]; rfl
    · rw [e, e2, g, show x * 0 = 0 by grind, sr_zero]; rfl
    · rw [e, e2, sr_pos (by have := Rl.mul_pos (x := -x) (y := -y) (by grind) (by grind); grind)]; rfl
theorem sr_q (r : Rat) : sr (Rl.q r) = sgn r := by
  rcases Rat.lt_trichotomy' r with h | h | h
  · rw [sgn_neg h, sr_neg (by rw [← Rl.q_zero, Rl.q_lt]; exact h)]
  · rw [h, sgn_zero, Rl.q_zero, sr_zero]
  · rw [sgn_pos h, sr_pos (by rw [← Rl.q_zero, Rl.q_lt]; exact h)]
where Rat.lt_trichotomy' (r : Rat) : r < 0 ∨ r = 0 ∨ 0 < r := by grind
theorem sr_neg' (x : Rl) : sr (-x) = -sr x := by
  rw [show -x = (-1) * x by grind, sr_mul, sr_neg (show (-1 : Rl) < 0 by grind)]
  omega
/-- a + b * root c -/
noncomputable def val (a b c : Rat) : Rl := Rl.q a + Rl.q b * Rl.sq c
def sg1 (a b c : Rat) : Int :=
  let s := sgn a
  let t := if c = 0 then 0 else sgn b
  if s = t ∨ t = 0 then s else if s = 0 then t else s * sgn (a * a - b * b * c)
theorem sq_zero : Rl.sq 0 = 0 := by
  have h := Rl.sq_mul (c := 0) (by grind)
  rw [Rl.q_zero] at h
  have g := Rl.sq_nonneg 0
  rcases sr_cases (Rl.sq 0) with ⟨e, h2⟩ | ⟨e, h2⟩ | ⟨e, h2⟩
  · have := Rl.mul_pos h2 h2
    grind
  · exact h2
  · grind
theorem sq_pos {c : Rat} (h : 0 < c) : 0 < Rl.sq c := by
  have h1 := Rl.sq_mul (c := c) (by grind)
  have g := Rl.sq_nonneg c
  rcases sr_cases (Rl.sq c) with ⟨e, h2⟩ | ⟨e, h2⟩ | ⟨e, h2⟩
  · exact h2
  · rw [h2, show (0 : Rl) * 0 = Rl.q 0 by rw [Rl.q_zero]; grind, Rl.q_inj] at h1
    grind
  · grind
theorem sg1_val {a b c : Rat} (hc : 0 ≤ c) : sg1 a b c = sr (val a b c) := by
  unfold sg1 val
  by_cases h0 : c = 0
  · subst h0
    rw [if_pos rfl]
    simp only [or_true, if_true]
    rw [sq_zero, show Rl.q a + Rl.q b * 0 = Rl.q a by grind, sr_q]
  · rw [if_neg h0]
    have hs := sq_pos (c := c) (by grind)
    have hm := Rl.sq_mul hc
    have ea := sr_q a
    have eb := sr_q b
    have eg : sgn (a * a - b * b * c) = sr (Rl.q a + Rl.q b * Rl.sq c) * sr (Rl.q a - Rl.q b * Rl.sq c) := by
      rw [← sr_q, ← sr_mul, Rl.q_sub, Rl.q_mul, Rl.q_mul, Rl.q_mul, ← hm]
      congr 1
      grind
    rw [eg, ← ea, ← eb]
    generalize Rl.q a = A at *
    generalize Rl.q b = B at *
    generalize Rl.sq c = s at *
    have pm : ∀ {y : Rl}, 0 < y → 0 < y * s := fun h => Rl.mul_pos h hs
    rcases sr_cases A with ⟨e1, h1⟩ | ⟨e1, h1⟩ | ⟨e1, h1⟩ <;> rcases sr_cases B with ⟨e2, h2⟩ | ⟨e2, h2⟩ | ⟨e2, h2⟩ <;> rw [e1, e2]
    · have := pm h2
      rw [sr_pos (show 0 < A + B * s by grind)]; rfl
    · rw [h2, show A + 0 * s = A by grind, e1]; rfl
    · have := pm (y := -B) (by grind)
      rw [sr_pos (show 0 < A - B * s by grind)]
      simp
    · have := pm h2
      rw [sr_pos (show 0 < A + B * s by grind)]; rfl
    · rw [h1, h2, show (0 : Rl) + 0 * s = 0 by grind, sr_zero]; rfl
    · have := pm (y := -B) (by grind)
      rw [sr_neg (show A + B * s < 0 by grind)]; rfl
    · have := pm h2
      rw [sr_neg (show A - B * s < 0 by grind)]
      simp
    · rw [h2, show A + 0 * s = A by grind, e1]; rfl
    · have := pm (y := -B) (by grind)
      rw [sr_neg (show A + B * s < 0 by grind)]; rfl
def sg2 (a b c d e : Rat) : Int :=
  if d = 0 ∨ e = 0 then sg1 a b c
  else
    let l := sg1 a b c
    let r := sgn d
    if l = 0 ∨ l = r then r else l * sg1 (a * a + b * b * c - d * d * e) (2 * (a * b)) c
theorem sg2_val {a b c d e : Rat} (hc : 0 ≤ c) (he : 0 ≤ e) : sg2 a b c d e = sr (val a b c + Rl.q d * Rl.sq e) := by
  unfold sg2
  by_cases h0 : d = 0 ∨ e = 0
  · rw [if_pos h0, sg1_val hc]
    congr 1
    rcases h0 with h | h
    · rw [h, Rl.q_zero]; grind
    · rw [h, sq_zero]; grind
  · rw [if_neg h0]
    have hd : d ≠ 0 := fun z => h0 (.inl z)
    have he0 : e ≠ 0 := fun z => h0 (.inr z)
    have hs := sq_pos (c := e) (by grind)
    have hm := Rl.sq_mul he
    have hm2 := Rl.sq_mul hc
    have eg : sg1 (a * a + b * b * c - d * d * e) (2 * (a * b)) c = sr (val a b c + Rl.q d * Rl.sq e) * sr (val a b c - Rl.q d * Rl.sq e) := by
      rw [sg1_val hc, ← sr_mul]
      congr 1
      unfold val
      rw [Rl.q_sub, Rl.q_add, Rl.q_mul, Rl.q_mul, Rl.q_mul, Rl.q_mul, Rl.q_mul, Rl.q_mul, Rl.q_mul, ← hm, ← hm2, Rl.q_two]
      grind
    simp only [eg, sg1_val hc]
    have ed : sgn d = sr (Rl.q d * Rl.sq e) := by rw [sr_mul, sr_q, sr_pos hs, Int.mul_one]
    have hdn : Rl.q d * Rl.sq e ≠ 0 := fun z => by
      have : sgn d = 0 := by rw [ed, z, sr_zero]
      have h1 : d.num = 0 := Int.sign_eq_zero_iff_zero.mp this
      exact hd (Rat.num_eq_zero.mp h1)
    rw [ed]
    generalize val a b c = A at *
    generalize Rl.q d * Rl.sq e = B at *
    rcases sr_cases A with ⟨e1, h1⟩ | ⟨e1, h1⟩ | ⟨e1, h1⟩ <;> rcases sr_cases B with ⟨e2, h2⟩ | ⟨e2, h2⟩ | ⟨e2, h2⟩ <;> rw [e1, e2]
    · rw [sr_pos (show 0 < A + B by grind)]; rfl
    · exact (hdn h2).elim
    · rw [sr_pos (show 0 < A - B by grind)]; simp
    · rw [h1, show 0 + B = B by grind, e2]; rfl
    · exact (hdn h2).elim
    · rw [h1, show 0 + B = B by grind, e2]; rfl
    · rw [sr_neg (show A - B < 0 by grind)]; simp
    · exact (hdn h2).elim
    · rw [sr_neg (show A + B < 0 by grind)]; rfl

abbrev c_NOTHING : D := .tuple [.int 0, .int 1]
def F__law_draws : List D → M D := bodyF 8 (sSeq (sOwn 2 aNil) (sSeq (sAsg (eC (.int 7)) (mgName 3)) (sSeq (sFor (itR1 (aCons (eCall fLen (aCons (eVar 0) aNil)) aNil)) (mgName 4) (sSeq (sAsg (eCall fAbs (aCons (eCall fInt (aCons (eOp fIx (eVar 0) (eVar 4)) aNil)) aNil)) (mgName 5)) (sSeq (sAsg (eOp fMod (eCall fInt (aCons (eOp fAdd (eOp fAdd (eOp fMul (eVar 3) (eC (.int 48271))) (eOp fMod (eVar 5) (eC (.int 1000003)))) (eVar 4)) aNil)) (eC (.int 65537))) (mgName 3)) (sSeq (sAsg (eC (.int 0)) (mgName 6)) (sSeq (sIf (eT (eOp fGe (eVar 5) (eOp fPow (eC (.int 10)) (eC (.int 18))))) (sAsg (eVar 5) (mgName 6)) (sSeq (sApp 2 (aCons (eOp fMod (eCall fInt (aCons (eVar 5) aNil)) (eC (.int 997))) aNil)) (sApp 2 (aCons (eOp fMod (eOp fMod (eCall fInt (aCons (eOp fAdd (eOp fMul (eVar 3) (eC (.int 69621))) (eC (.int 5))) aNil)) (eC (.int 65521))) (eC (.int 997))) aNil)))) (sFor (itR1 (aCons (eC (.int 60)) aNil)) (mgName 7) (sIf (eT (eOp fGt (eVar 6) (eC (.int 0)))) (sSeq (sApp 2 (aCons (eOp fMod (eCall fInt (aCons (eVar 6) aNil)) (eC (.int 997))) aNil)) (sAsg (eOp fDiv (eVar 6) (eC (.int 997))) (mgName 6))) sNext))))))) (sSeq (sFor (itR1 (aCons (eVar 1) aNil)) (mgName 4) (sSeq (sAsg (eOp fMod (eCall fInt (aCons (eOp fAdd (eOp fAdd (eOp fMul (eVar 3) (eC (.int 16807))) (eVar 4)) (eC (.int 1))) aNil)) (eC (.int 65537))) (mgName 3)) (sApp 2 (aCons (eOp fMod (eCall fInt (aCons (eVar 3) aNil)) (eC (.int 997))) aNil)))) (sFreeze 2 (sRet (eSl (eVar 2) oNone (oSome (eVar 1)))))))))
def F__law_frac : List D → M D := bodyF 5 (sSeq (sPar 2 3 (aCons (eCall fAbs (aCons (eVar 0) aNil)) (aCons (eCall fAbs (aCons (eVar 1) aNil)) aNil))) (sSeq (sFor (itR1 (aCons (eC (.int 20000)) aNil)) (mgName 4) (sSeq (sIf (eT (eOp fEq (eVar 3) (eC (.int 0)))) sBreak sNext) (sPar 2 3 (aCons (eVar 3) (aCons (eOp fSub (eVar 2) (eOp fMul (eOp fDiv (eVar 2) (eVar 3)) (eVar 3))) aNil))))) (sSeq (sAsg (eIf (eT (eOp fGt (eVar 1) (eC (.int 0)))) (eVar 2) (eOp fSub (eC (.int 0)) (eVar 2))) (mgName 2)) (sRet (eTup (aCons (eOp fDiv (eVar 0) (eVar 2)) (aCons (eOp fDiv (eVar 1) (eVar 2)) aNil)))))))
def F__law_over : List D → M D := bodyF 2 (sRet (eCallN 2 F__law_frac (aCons (eOp fMul (eOp fIx (eVar 0) (eC (.int 0))) (eOp fIx (eVar 1) (eC (.int 1)))) (aCons (eOp fMul (eOp fIx (eVar 0) (eC (.int 1))) (eOp fIx (eVar 1) (eC (.int 0)))) aNil))))
def F__law_line : List D → M D := bodyF 4 (sSeq (sAsg (eIf (eT (eOp fNe (eOp fIx (eVar 0) (eC (.int 0))) (eC (.int 0)))) (eVar 0) (eVar 1)) (mgName 3)) (sRet (eTup (aCons (eC (.int 0)) (aCons (eCallN 2 F__law_over (aCons (eVar 0) (aCons (eVar 3) aNil))) (aCons (eCallN 2 F__law_over (aCons (eVar 1) (aCons (eVar 3) aNil))) (aCons (eCallN 2 F__law_over (aCons (eVar 2) (aCons (eVar 3) aNil))) aNil)))))))
def F__law_next : List D → M D := F_next
def F__law_less : List D → M D := bodyF 2 (sRet (eCallN 2 F__law_frac (aCons (eOp fSub (eOp fMul (eOp fIx (eVar 0) (eC (.int 0))) (eOp fIx (eVar 1) (eC (.int 1)))) (eOp fMul (eOp fIx (eVar 1) (eC (.int 0))) (eOp fIx (eVar 0) (eC (.int 1))))) (aCons (eOp fMul (eOp fIx (eVar 0) (eC (.int 1))) (eOp fIx (eVar 1) (eC (.int 1)))) aNil))))
def F__law_add : List D → M D := bodyF 2 (sRet (eCallN 2 F__law_frac (aCons (eOp fAdd (eOp fMul (eOp fIx (eVar 0) (eC (.int 0))) (eOp fIx (eVar 1) (eC (.int 1)))) (eOp fMul (eOp fIx (eVar 1) (eC (.int 0))) (eOp fIx (eVar 0) (eC (.int 1))))) (aCons (eOp fMul (eOp fIx (eVar 0) (eC (.int 1))) (eOp fIx (eVar 1) (eC (.int 1)))) aNil))))
def F__law_mul : List D → M D := bodyF 2 (sRet (eCallN 2 F__law_frac (aCons (eOp fMul (eOp fIx (eVar 0) (eC (.int 0))) (eOp fIx (eVar 1) (eC (.int 0)))) (aCons (eOp fMul (eOp fIx (eVar 0) (eC (.int 1))) (eOp fIx (eVar 1) (eC (.int 1)))) aNil))))
def F__law_circle : List D → M D := bodyF 4 (sSeq (sAsg (eCallN 2 F__law_less (aCons (eCallN 2 F__law_add (aCons (eCallN 2 F__law_mul (aCons (eVar 0) (aCons (eVar 0) aNil))) (aCons (eCallN 2 F__law_mul (aCons (eVar 1) (aCons (eVar 1) aNil))) aNil))) (aCons (eVar 2) aNil))) (mgName 3)) (sRet (eTup (aCons (eC (.int 1)) (aCons (eCallN 2 F__law_mul (aCons (eTup (aCons (eUn fNeg (eC (.int 2))) (aCons (eC (.int 1)) aNil))) (aCons (eVar 0) aNil))) (aCons (eCallN 2 F__law_mul (aCons (eTup (aCons (eUn fNeg (eC (.int 2))) (aCons (eC (.int 1)) aNil))) (aCons (eVar 1) aNil))) (aCons (eVar 3) aNil)))))))
def F__law_small : List D → M D := bodyF 1 (sRet (eCallN 2 F__law_frac (aCons (eOp fSub (eCallN 2 F__law_next (aCons (eVar 0) (aCons (eC (.int 9)) aNil))) (eC (.int 4))) (aCons (eOp fAdd (eC (.int 1)) (eCallN 2 F__law_next (aCons (eVar 0) (aCons (eC (.int 2)) aNil)))) aNil))))
def F__law_curve : List D → M D := bodyF 3 (sSeq (sIf (eT (eOp fEq (eCallN 2 F__law_next (aCons (eVar 0) (aCons (eC (.int 2)) aNil))) (eC (.int 0)))) (sRet (eCallN 3 F__law_circle (aCons (eCallN 1 F__law_small (aCons (eVar 0) aNil)) (aCons (eCallN 1 F__law_small (aCons (eVar 0) aNil)) (aCons (eCallN 2 F__law_frac (aCons (eOp fAdd (eC (.int 1)) (eCallN 2 F__law_next (aCons (eVar 0) (aCons (eC (.int 9)) aNil)))) (aCons (eOp fAdd (eC (.int 1)) (eCallN 2 F__law_next (aCons (eVar 0) (aCons (eC (.int 2)) aNil)))) aNil))) aNil))))) sNext) (sSeq (sPar 1 2 (aCons (eOp fSub (eCallN 2 F__law_next (aCons (eVar 0) (aCons (eC (.int 4)) aNil))) (eC (.int 1))) (aCons (eOp fSub (eCallN 2 F__law_next (aCons (eVar 0) (aCons (eC (.int 4)) aNil))) (eC (.int 1))) aNil))) (sRet (eCallN 3 F__law_line (aCons (eTup (aCons (eVar 1) (aCons (eC (.int 1)) aNil))) (aCons (eTup (aCons (eIf (mOr (eT (eOp fNe (eVar 1) (eC (.int 0)))) (eT (eOp fNe (eVar 2) (eC (.int 0))))) (eVar 2) (eC (.int 1))) (aCons (eC (.int 1)) aNil))) (aCons (eCallN 1 F__law_small (aCons (eVar 0) aNil)) aNil)))))))
def F__law_middle : List D → M D := bodyF 1 (sRet (eTup (aCons (eCallN 2 F__law_over (aCons (eOp fIx (eVar 0) (eC (.int 1))) (aCons (eTup (aCons (eUn fNeg (eC (.int 2))) (aCons (eC (.int 1)) aNil))) aNil))) (aCons (eCallN 2 F__law_over (aCons (eOp fIx (eVar 0) (eC (.int 2))) (aCons (eTup (aCons (eUn fNeg (eC (.int 2))) (aCons (eC (.int 1)) aNil))) aNil))) aNil))))
def F__law_pick : List D → M D := bodyF 2 (sRet (eOp fIx (eVar 1) (eCallN 2 F__law_next (aCons (eVar 0) (aCons (eCall fLen (aCons (eVar 1) aNil)) aNil)))))
def F__law_drawn : List D → M D := bodyF 10 (sSeq (sAsg (eCallN 1 F__law_curve (aCons (eVar 0) aNil)) (mgName 1)) (sSeq (sIf (mAnd (eT (eOp fEq (eOp fIx (eVar 1) (eC (.int 0))) (eC (.int 1)))) (eT (eOp fEq (eCallN 2 F__law_next (aCons (eVar 0) (aCons (eC (.int 2)) aNil))) (eC (.int 0))))) (sSeq (sAsg (eTup (aCons (eCallN 1 F__law_middle (aCons (eVar 1) aNil)) (aCons (eTup (aCons (eOp fAdd (eC (.int 1)) (eCallN 2 F__law_next (aCons (eVar 0) (aCons (eC (.int 4)) aNil)))) (aCons (eC (.int 1)) aNil))) aNil))) (mgTup 2 (mgCons (mgTup 2 (mgCons (mgName 2) (mgCons (mgName 3) mgNil))) (mgCons (mgName 4) mgNil)))) (sSeq (sPar 5 6 (aCons (eCallN 2 F__law_mul (aCons (eVar 4) (aCons (eVar 4) aNil))) (aCons (eCallN 2 F__law_add (aCons (eVar 2) (aCons (eVar 4) aNil))) aNil))) (sSeq (sAsg (eCallN 3 F__law_circle (aCons (eCallN 2 F__law_add (aCons (eVar 2) (aCons (eCallN 2 F__law_mul (aCons (eVar 4) (aCons (eTup (aCons (eC (.int 2)) (aCons (eC (.int 1)) aNil))) aNil))) aNil))) (aCons (eVar 3) (aCons (eVar 5) aNil)))) (mgName 7)) (sSeq (sPar 8 9 (aCons (eCallN 3 F__law_line (aCons (eTup (aCons (eC (.int 1)) (aCons (eC (.int 1)) aNil))) (aCons (eTup (aCons (eC (.int 0)) (aCons (eC (.int 1)) aNil))) (aCons (eTup (aCons (eOp fSub (eC (.int 0)) (eOp fIx (eVar 6) (eC (.int 0)))) (aCons (eOp fIx (eVar 6) (eC (.int 1))) aNil))) aNil)))) (aCons (eCallN 3 F__law_circle (aCons (eVar 6) (aCons (eVar 3) (aCons (eCallN 2 F__law_mul (aCons (eVar 5) (aCons (eTup (aCons (eC (.int 4)) (aCons (eC (.int 1)) aNil))) aNil))) aNil)))) aNil))) (sRet (eTup (aCons (eCallN 3 F__law_circle (aCons (eVar 2) (aCons (eVar 3) (aCons (eVar 5) aNil)))) (aCons (eCallN 2 F__law_pick (aCons (eVar 0) (aCons (eLst (aCons (eVar 7) (aCons (eVar 8) (aCons (eVar 9) aNil)))) aNil))) aNil)))))))) sNext) (sRet (eTup (aCons (eVar 1) (aCons (eCallN 1 F__law_curve (aCons (eVar 0) aNil)) aNil))))))
def F_common : List D → M D := bodyF 2 (sSeq (sWhile (eT (eOp fNe (eVar 1) (eC (.int 0)))) (sPar 0 1 (aCons (eVar 1) (aCons (eOp fMod (eVar 0) (eVar 1)) aNil)))) (sRet (eCall fAbs (aCons (eVar 0) aNil))))
def F_fraction : List D → M D := bodyF 3 (sSeq (sAsg (eCallN 2 F_common (aCons (eVar 0) (aCons (eVar 1) aNil))) (mgName 2)) (sSeq (sIf (eT (eOp fLt (eVar 1) (eC (.int 0)))) (sAsg (eUn fNeg (eVar 2)) (mgName 2)) sNext) (sRet (eTup (aCons (eOp fDiv (eVar 0) (eVar 2)) (aCons (eOp fDiv (eVar 1) (eVar 2)) aNil))))))
def F_half : List D → M D := bodyF 1 (sRet (eCallN 2 F_fraction (aCons (eOp fIx (eVar 0) (eC (.int 0))) (aCons (eOp fMul (eC (.int 2)) (eOp fIx (eVar 0) (eC (.int 1)))) aNil))))
def F_turned : List D → M D := bodyF 1 (sRet (eTup (aCons (eUn fNeg (eOp fIx (eVar 0) (eC (.int 0)))) (aCons (eOp fIx (eVar 0) (eC (.int 1))) aNil))))
def F_middle_of : List D → M D := bodyF 1 (sRet (eTup (aCons (eCallN 1 F_half (aCons (eCallN 1 F_turned (aCons (eOp fIx (eVar 0) (eC (.int 1))) aNil)) aNil)) (aCons (eCallN 1 F_half (aCons (eCallN 1 F_turned (aCons (eOp fIx (eVar 0) (eC (.int 2))) aNil)) aNil)) aNil))))
def F_minus : List D → M D := bodyF 2 (sRet (eCallN 2 F_fraction (aCons (eOp fSub (eOp fMul (eOp fIx (eVar 0) (eC (.int 0))) (eOp fIx (eVar 1) (eC (.int 1)))) (eOp fMul (eOp fIx (eVar 1) (eC (.int 0))) (eOp fIx (eVar 0) (eC (.int 1))))) (aCons (eOp fMul (eOp fIx (eVar 0) (eC (.int 1))) (eOp fIx (eVar 1) (eC (.int 1)))) aNil))))
def F_added : List D → M D := bodyF 2 (sRet (eCallN 2 F_fraction (aCons (eOp fAdd (eOp fMul (eOp fIx (eVar 0) (eC (.int 0))) (eOp fIx (eVar 1) (eC (.int 1)))) (eOp fMul (eOp fIx (eVar 1) (eC (.int 0))) (eOp fIx (eVar 0) (eC (.int 1))))) (aCons (eOp fMul (eOp fIx (eVar 0) (eC (.int 1))) (eOp fIx (eVar 1) (eC (.int 1)))) aNil))))
def F_square : List D → M D := bodyF 1 (sRet (eTup (aCons (eOp fMul (eOp fIx (eVar 0) (eC (.int 0))) (eOp fIx (eVar 0) (eC (.int 0)))) (aCons (eOp fMul (eOp fIx (eVar 0) (eC (.int 1))) (eOp fIx (eVar 0) (eC (.int 1)))) aNil))))
def F_radius_of : List D → M D := bodyF 3 (sSeq (sAsg (eCallN 1 F_middle_of (aCons (eVar 0) aNil)) (mgTup 2 (mgCons (mgName 1) (mgCons (mgName 2) mgNil)))) (sRet (eCallN 2 F_minus (aCons (eCallN 2 F_added (aCons (eCallN 1 F_square (aCons (eVar 1) aNil)) (aCons (eCallN 1 F_square (aCons (eVar 2) aNil)) aNil))) (aCons (eOp fIx (eVar 0) (eC (.int 3))) aNil)))))
def F_plain : List D → M D := bodyF 1 (sRet (eTup (aCons (eVar 0) (aCons (eC c_NOTHING) (aCons (eC c_NOTHING) aNil)))))
def F_whole_root : List D → M D := bodyF 4 (sSeq (sPar 1 2 (aCons (eC (.int 0)) (aCons (eOp fAdd (eVar 0) (eC (.int 1))) aNil))) (sSeq (sWhile (eT (eOp fGt (eOp fSub (eVar 2) (eVar 1)) (eC (.int 1)))) (sSeq (sAsg (eOp fDiv (eOp fAdd (eVar 1) (eVar 2)) (eC (.int 2))) (mgName 3)) (sIf (eT (eOp fLe (eOp fMul (eVar 3) (eVar 3)) (eVar 0))) (sAsg (eVar 3) (mgName 1)) (sAsg (eVar 3) (mgName 2))))) (sRet (eIf (eT (eOp fEq (eOp fMul (eVar 1) (eVar 1)) (eVar 0))) (eVar 1) (eC .none)))))
def F_times : List D → M D := bodyF 2 (sRet (eCallN 2 F_fraction (aCons (eOp fMul (eOp fIx (eVar 0) (eC (.int 0))) (eOp fIx (eVar 1) (eC (.int 0)))) (aCons (eOp fMul (eOp fIx (eVar 0) (eC (.int 1))) (eOp fIx (eVar 1) (eC (.int 1)))) aNil))))
def F_tidy : List D → M D := bodyF 5 (sSeq (sIf (mOr (eT (eOp fEq (eVar 1) (eC c_NOTHING))) (eT (eOp fEq (eVar 2) (eC c_NOTHING)))) (sRet (eCallN 1 F_plain (aCons (eVar 0) aNil))) sNext) (sSeq (sPar 3 4 (aCons (eCallN 1 F_whole_root (aCons (eOp fIx (eVar 2) (eC (.int 0))) aNil)) (aCons (eCallN 1 F_whole_root (aCons (eOp fIx (eVar 2) (eC (.int 1))) aNil)) aNil))) (sSeq (sIf (mAnd (eT (eOp fNotN (eVar 3) (eC .none))) (eT (eOp fNotN (eVar 4) (eC .none)))) (sRet (eCallN 1 F_plain (aCons (eCallN 2 F_added (aCons (eVar 0) (aCons (eCallN 2 F_times (aCons (eVar 1) (aCons (eTup (aCons (eVar 3) (aCons (eVar 4) aNil))) aNil))) aNil))) aNil))) sNext) (sRet (eTup (aCons (eVar 0) (aCons (eVar 1) (aCons (eVar 2) aNil))))))))
def F_turns_of : List D → M D := bodyF 4 (sSeq (sIf (eT (eOp fEq (eOp fIx (eVar 0) (eC (.int 0))) (eC (.int 0)))) (sRet (eLst aNil)) sNext) (sSeq (sAsg (eCallN 1 F_middle_of (aCons (eVar 0) aNil)) (mgTup 2 (mgCons (mgName 1) (mgCons (mgName 2) mgNil)))) (sSeq (sAsg (eCallN 1 F_radius_of (aCons (eVar 0) aNil)) (mgName 3)) (sRet (eLst (aCons (eTup (aCons (eCallN 3 F_tidy (aCons (eVar 1) (aCons (eTup (aCons (eUn fNeg (eC (.int 1))) (aCons (eC (.int 1)) aNil))) (aCons (eVar 3) aNil)))) (aCons (eCallN 1 F_plain (aCons (eVar 2) aNil)) aNil))) (aCons (eTup (aCons (eCallN 3 F_tidy (aCons (eVar 1) (aCons (eTup (aCons (eC (.int 1)) (aCons (eC (.int 1)) aNil))) (aCons (eVar 3) aNil)))) (aCons (eCallN 1 F_plain (aCons (eVar 2) aNil)) aNil))) aNil)))))))
def F_over : List D → M D := bodyF 2 (sRet (eCallN 2 F_fraction (aCons (eOp fMul (eOp fIx (eVar 0) (eC (.int 0))) (eOp fIx (eVar 1) (eC (.int 1)))) (aCons (eOp fMul (eOp fIx (eVar 0) (eC (.int 1))) (eOp fIx (eVar 1) (eC (.int 0)))) aNil))))
def F_sign_of : List D → M D := bodyF 1 (sRet (eOp fSubB (eOp fGt (eVar 0) (eC (.int 0))) (eOp fLt (eVar 0) (eC (.int 0)))))
def F_sign : List D → M D := bodyF 1 (sRet (eCallN 1 F_sign_of (aCons (eOp fIx (eVar 0) (eC (.int 0))) aNil)))
def FX_circle : List D → M D := bodyF 4 (sSeq (sIf (eT (eOp fLe (eCallN 1 F_sign (aCons (eVar 2) aNil)) (eC (.int 0)))) (sRaise "circle") sNext) (sSeq (sAsg (eCallN 2 F_minus (aCons (eCallN 2 F_added (aCons (eCallN 1 F_square (aCons (eVar 0) aNil)) (aCons (eCallN 1 F_square (aCons (eVar 1) aNil)) aNil))) (aCons (eVar 2) aNil))) (mgName 3)) (sRet (eTup (aCons (eC (.int 1)) (aCons (eCallN 2 F_times (aCons (eTup (aCons (eUn fNeg (eC (.int 2))) (aCons (eC (.int 1)) aNil))) (aCons (eVar 0) aNil))) (aCons (eCallN 2 F_times (aCons (eTup (aCons (eUn fNeg (eC (.int 2))) (aCons (eC (.int 1)) aNil))) (aCons (eVar 1) aNil))) (aCons (eVar 3) aNil))))))))
def F_circle : List D → M D := noX FX_circle
def FX_circle_through : List D → M D := bodyF 22 (sSeq (sOwn 3 aNil) (sSeq (sFor (itT (eTup (aCons (eVar 0) (aCons (eVar 1) (aCons (eVar 2) aNil))))) (mgTup 2 (mgCons (mgName 4) (mgCons (mgName 5) mgNil))) (sApp 3 (aCons (eTup (aCons (eVar 4) (aCons (eVar 5) (aCons (eCallN 2 F_added (aCons (eCallN 1 F_square (aCons (eVar 4) aNil)) (aCons (eCallN 1 F_square (aCons (eVar 5) aNil)) aNil))) aNil)))) aNil))) (sFreeze 3 (sSeq (sAsg (eVar 3) (mgLst 3 (mgCons (mgTup 3 (mgCons (mgName 4) (mgCons (mgName 5) (mgCons (mgName 6) mgNil)))) (mgCons (mgTup 3 (mgCons (mgName 7) (mgCons (mgName 8) (mgCons (mgName 9) mgNil)))) (mgCons (mgTup 3 (mgCons (mgName 10) (mgCons (mgName 11) (mgCons (mgName 12) mgNil)))) mgNil))))) (sSeq (sPar3 13 14 15 (aCons (eCallN 2 F_minus (aCons (eVar 7) (aCons (eVar 4) aNil))) (aCons (eCallN 2 F_minus (aCons (eVar 8) (aCons (eVar 5) aNil))) (aCons (eCallN 2 F_minus (aCons (eVar 9) (aCons (eVar 6) aNil))) aNil)))) (sSeq (sPar3 16 17 18 (aCons (eCallN 2 F_minus (aCons (eVar 10) (aCons (eVar 4) aNil))) (aCons (eCallN 2 F_minus (aCons (eVar 11) (aCons (eVar 5) aNil))) (aCons (eCallN 2 F_minus (aCons (eVar 12) (aCons (eVar 6) aNil))) aNil)))) (sSeq (sAsg (eCallN 2 F_times (aCons (eTup (aCons (eC (.int 2)) (aCons (eC (.int 1)) aNil))) (aCons (eCallN 2 F_minus (aCons (eCallN 2 F_times (aCons (eVar 13) (aCons (eVar 17) aNil))) (aCons (eCallN 2 F_times (aCons (eVar 14) (aCons (eVar 16) aNil))) aNil))) aNil))) (mgName 19)) (sSeq (sIf (eT (eOp fEq (eVar 19) (eC c_NOTHING))) (sRaise "circle") sNext) (sSeq (sAsg (eCallN 2 F_over (aCons (eCallN 2 F_minus (aCons (eCallN 2 F_times (aCons (eVar 15) (aCons (eVar 17) aNil))) (aCons (eCallN 2 F_times (aCons (eVar 14) (aCons (eVar 18) aNil))) aNil))) (aCons (eVar 19) aNil))) (mgName 20)) (sSeq (sAsg (eCallN 2 F_over (aCons (eCallN 2 F_minus (aCons (eCallN 2 F_times (aCons (eVar 13) (aCons (eVar 18) aNil))) (aCons (eCallN 2 F_times (aCons (eVar 15) (aCons (eVar 16) aNil))) aNil))) (aCons (eVar 19) aNil))) (mgName 21)) (sRet (eCallN 3 FX_circle (aCons (eVar 20) (aCons (eVar 21) (aCons (eCallN 2 F_added (aCons (eCallN 1 F_square (aCons (eCallN 2 F_minus (aCons (eVar 4) (aCons (eVar 20) aNil))) aNil)) (aCons (eCallN 1 F_square (aCons (eCallN 2 F_minus (aCons (eVar 5) (aCons (eVar 21) aNil))) aNil)) aNil))) aNil)))))))))))))))
def F_circle_through : List D → M D := noX FX_circle_through
def FX_line : List D → M D := bodyF 4 (sSeq (sAsg (eIf (eT (eOp fNe (eVar 0) (eC c_NOTHING))) (eVar 0) (eVar 1)) (mgName 3)) (sSeq (sIf (eT (eOp fEq (eVar 3) (eC c_NOTHING))) (sRaise "line") sNext) (sRet (eTup (aCons (eTup (aCons (eC (.int 0)) (aCons (eCallN 2 F_over (aCons (eVar 0) (aCons (eVar 3) aNil))) (aCons (eCallN 2 F_over (aCons (eVar 1) (aCons (eVar 3) aNil))) (aCons (eCallN 2 F_over (aCons (eVar 2) (aCons (eVar 3) aNil))) aNil))))) (aCons (eOp fLt (eOp fIx (eVar 3) (eC (.int 0))) (eC (.int 0))) aNil))))))
def F_line : List D → M D := noX FX_line
def FX_line_through : List D → M D := bodyF 10 (sSeq (sAsg (eTup (aCons (eVar 0) (aCons (eVar 1) aNil))) (mgTup 2 (mgCons (mgTup 2 (mgCons (mgName 2) (mgCons (mgName 3) mgNil))) (mgCons (mgTup 2 (mgCons (mgName 4) (mgCons (mgName 5) mgNil))) mgNil)))) (sSeq (sPar 6 7 (aCons (eCallN 2 F_minus (aCons (eVar 3) (aCons (eVar 5) aNil))) (aCons (eCallN 2 F_minus (aCons (eVar 4) (aCons (eVar 2) aNil))) aNil))) (sSeq (sAsgX (eCallN 3 FX_line (aCons (eVar 6) (aCons (eVar 7) (aCons (eCallN 1 F_turned (aCons (eCallN 2 F_added (aCons (eCallN 2 F_times (aCons (eVar 6) (aCons (eVar 2) aNil))) (aCons (eCallN 2 F_times (aCons (eVar 7) (aCons (eVar 3) aNil))) aNil))) aNil)) aNil)))) (mgTup 2 (mgCons (mgName 8) (mgCons (mgName 9) mgNil)))) (sRet (eTup (aCons (eVar 8) (aCons (eNot (eVar 9)) aNil)))))))
def F_line_through : List D → M D := noX FX_line_through
def F__law_try : List D → M D := bodyF 3 (sTry (sRet (eIf (eT (eOp fEq (eVar 0) (eC (.str "circle")))) (eCallN 3 FX_circle_through (aCons (eOp fIx (eVar 1) (eC (.int 0))) (aCons (eOp fIx (eVar 1) (eC (.int 1))) (aCons (eOp fIx (eVar 1) (eC (.int 2))) aNil)))) (eCallN 2 FX_line_through (aCons (eOp fIx (eVar 1) (eC (.int 0))) (aCons (eOp fIx (eVar 1) (eC (.int 1))) aNil))))))
def F_is_number : List D → M D := bodyF 1 (sRet (eAnd (eUn (fIsi "int") (eVar 0)) (eNot (eUn (fIsi "bool") (eVar 0)))))
def F_is_fraction : List D → M D := bodyF 1 (sSeq (sIf (mOr (mNot (eT (eUn (fIsi "tuple") (eVar 0)))) (mOr (eT (eOp fNe (eCall fLen (aCons (eVar 0) aNil)) (eC (.int 2)))) (mOr (mNot (eT (eCallN 1 F_is_number (aCons (eOp fIx (eVar 0) (eC (.int 0))) aNil)))) (mNot (eT (eCallN 1 F_is_number (aCons (eOp fIx (eVar 0) (eC (.int 1))) aNil))))))) (sRet (eC (.bool false))) sNext) (sRet (eAnd (eOp fGe (eOp fIx (eVar 0) (eC (.int 1))) (eC (.int 1))) (eOp fEq (eCallN 2 F_common (aCons (eOp fIx (eVar 0) (eC (.int 0))) (aCons (eOp fIx (eVar 0) (eC (.int 1))) aNil))) (eC (.int 1))))))
def F_is_curve : List D → M D := bodyF 2 (sSeq (sIf (mOr (mNot (eT (eUn (fIsi "tuple") (eVar 0)))) (mOr (eT (eOp fNe (eCall fLen (aCons (eVar 0) aNil)) (eC (.int 4)))) (mNot (eT (eCall fAll (aCons (eLc (itT (eSl (eVar 0) (oSome (eC (.int 1))) oNone)) [1] (mgName 1) mYes (eCallN 1 F_is_fraction (aCons (eVar 1) aNil))) aNil)))))) (sRet (eC (.bool false))) sNext) (sSeq (sIf (mOr (eT (eUn (fIsi "bool") (eOp fIx (eVar 0) (eC (.int 0))))) (mOr (eT (eOp (fInT true) (eOp fIx (eVar 0) (eC (.int 0))) (eTup (aCons (eC (.int 0)) (aCons (eC (.int 1)) aNil))))) (mNot (eT (eUn (fIsi "int") (eOp fIx (eVar 0) (eC (.int 0)))))))) (sRet (eC (.bool false))) sNext) (sSeq (sIf (eT (eOp fEq (eOp fIx (eVar 0) (eC (.int 0))) (eC (.int 1)))) (sRet (eOp fGt (eCallN 1 F_sign (aCons (eCallN 1 F_radius_of (aCons (eVar 0) aNil)) aNil)) (eC (.int 0)))) sNext) (sRet (eOr (eOp fEq (eOp fIx (eVar 0) (eC (.int 1))) (eTup (aCons (eC (.int 1)) (aCons (eC (.int 1)) aNil)))) (eAnd (eOp fEq (eOp fIx (eVar 0) (eC (.int 1))) (eC c_NOTHING)) (eOp fEq (eOp fIx (eVar 0) (eC (.int 2))) (eTup (aCons (eC (.int 1)) (aCons (eC (.int 1)) aNil))))))))))
def F__law_point : List D → M D := bodyF 2 (sRet (eTup (aCons (eTup (aCons (eVar 0) (aCons (eTup (aCons (eC (.int 0)) (aCons (eC (.int 1)) aNil))) (aCons (eTup (aCons (eC (.int 0)) (aCons (eC (.int 1)) aNil))) aNil)))) (aCons (eTup (aCons (eVar 1) (aCons (eTup (aCons (eC (.int 0)) (aCons (eC (.int 1)) aNil))) (aCons (eTup (aCons (eC (.int 0)) (aCons (eC (.int 1)) aNil))) aNil)))) aNil))))
def F__law_says : List D → M D := bodyF 2 (sRet (eAnd (eUn (fIsi "bool") (eVar 0)) (eOp fEq (eVar 0) (eVar 1))))
def F__law_sgn : List D → M D := bodyF 1 (sRet (eOp fSub (eIf (eT (eOp fGt (eOp fIx (eVar 0) (eC (.int 0))) (eC (.int 0)))) (eC (.int 1)) (eC (.int 0))) (eIf (eT (eOp fLt (eOp fIx (eVar 0) (eC (.int 0))) (eC (.int 0)))) (eC (.int 1)) (eC (.int 0)))))
def F__law_sign : List D → M D := bodyF 7 (sSeq (sAsg (eVar 0) (mgTup 3 (mgCons (mgName 1) (mgCons (mgName 2) (mgCons (mgName 3) mgNil))))) (sSeq (sPar 4 5 (aCons (eCallN 1 F__law_sgn (aCons (eVar 1) aNil)) (aCons (eIf (eT (eOp fGt (eOp fIx (eVar 3) (eC (.int 0))) (eC (.int 0)))) (eCallN 1 F__law_sgn (aCons (eVar 2) aNil)) (eC (.int 0))) aNil))) (sSeq (sIf (mOr (eT (eOp fEq (eVar 4) (eVar 5))) (eT (eOp fEq (eVar 5) (eC (.int 0))))) (sRet (eVar 4)) sNext) (sSeq (sAsg (eCallN 1 F__law_sgn (aCons (eCallN 2 F__law_less (aCons (eCallN 2 F__law_mul (aCons (eVar 1) (aCons (eVar 1) aNil))) (aCons (eCallN 2 F__law_mul (aCons (eCallN 2 F__law_mul (aCons (eVar 2) (aCons (eVar 2) aNil))) (aCons (eVar 3) aNil))) aNil))) aNil)) (mgName 6)) (sRet (eIf (eT (eOp fEq (eVar 4) (eC (.int 0)))) (eVar 5) (eOp fMul (eVar 4) (eVar 6))))))))
def F__law_value : List D → M D := bodyF 14 (sSeq (sAsg (eVar 1) (mgTup 2 (mgCons (mgTup 3 (mgCons (mgName 2) (mgCons (mgName 3) (mgCons (mgName 4) mgNil)))) (mgCons (mgTup 3 (mgCons (mgName 5) (mgCons (mgName 6) (mgCons (mgName 7) mgNil)))) mgNil)))) (sSeq (sAsg (eVar 0) (mgTup 4 (mgCons (mgName 8) (mgCons (mgName 9) (mgCons (mgName 10) (mgCons (mgName 11) mgNil)))))) (sSeq (sAsg (eIf (eT (eOp fGt (eOp fIx (eVar 4) (eC (.int 0))) (eC (.int 0)))) (eVar 4) (eVar 7)) (mgName 4)) (sSeq (sAsg (eCallN 2 F__law_add (aCons (eCallN 2 F__law_add (aCons (eCallN 2 F__law_mul (aCons (eVar 9) (aCons (eVar 2) aNil))) (aCons (eCallN 2 F__law_mul (aCons (eVar 10) (aCons (eVar 5) aNil))) aNil))) (aCons (eVar 11) aNil))) (mgName 12)) (sSeq (sAsg (eCallN 2 F__law_add (aCons (eCallN 2 F__law_mul (aCons (eVar 9) (aCons (eVar 3) aNil))) (aCons (eCallN 2 F__law_mul (aCons (eVar 10) (aCons (eVar 6) aNil))) aNil))) (mgName 13)) (sSeq (sIf (eT (eOp fEq (eVar 8) (eC (.int 1)))) (sSeq (sAsg (eCallN 2 F__law_add (aCons (eVar 12) (aCons (eCallN 2 F__law_add (aCons (eCallN 2 F__law_add (aCons (eCallN 2 F__law_mul (aCons (eVar 2) (aCons (eVar 2) aNil))) (aCons (eCallN 2 F__law_mul (aCons (eVar 5) (aCons (eVar 5) aNil))) aNil))) (aCons (eCallN 2 F__law_mul (aCons (eCallN 2 F__law_add (aCons (eCallN 2 F__law_mul (aCons (eVar 3) (aCons (eVar 3) aNil))) (aCons (eCallN 2 F__law_mul (aCons (eVar 6) (aCons (eVar 6) aNil))) aNil))) (aCons (eVar 4) aNil))) aNil))) aNil))) (mgName 12)) (sAsg (eCallN 2 F__law_add (aCons (eVar 13) (aCons (eCallN 2 F__law_mul (aCons (eTup (aCons (eC (.int 2)) (aCons (eC (.int 1)) aNil))) (aCons (eCallN 2 F__law_add (aCons (eCallN 2 F__law_mul (aCons (eVar 2) (aCons (eVar 3) aNil))) (aCons (eCallN 2 F__law_mul (aCons (eVar 5) (aCons (eVar 6) aNil))) aNil))) aNil))) aNil))) (mgName 13))) sNext) (sRet (eTup (aCons (eVar 12) (aCons (eVar 13) (aCons (eVar 4) aNil)))))))))))
def F__law_side : List D → M D := bodyF 2 (sRet (eCallN 1 F__law_sign (aCons (eCallN 2 F__law_value (aCons (eVar 0) (aCons (eVar 1) aNil))) aNil)))
def F__law_through : List D → M D := bodyF 16 (sSeq (sAsg (eLc (itR1 (aCons (eC (.int 3)) aNil)) [14] (mgName 14) mYes (eTup (aCons (eCallN 1 F__law_small (aCons (eVar 0) aNil)) (aCons (eCallN 1 F__law_small (aCons (eVar 0) aNil)) aNil)))) (mgName 1)) (sSeq (sAsg (eVar 1) (mgLst 3 (mgCons (mgTup 2 (mgCons (mgName 2) (mgCons (mgName 3) mgNil))) (mgCons (mgTup 2 (mgCons (mgName 4) (mgCons (mgName 5) mgNil))) (mgCons (mgTup 2 (mgCons (mgName 6) (mgCons (mgName 7) mgNil))) mgNil))))) (sSeq (sAsg (eCallN 2 F__law_less (aCons (eCallN 2 F__law_mul (aCons (eCallN 2 F__law_less (aCons (eVar 4) (aCons (eVar 2) aNil))) (aCons (eCallN 2 F__law_less (aCons (eVar 7) (aCons (eVar 3) aNil))) aNil))) (aCons (eCallN 2 F__law_mul (aCons (eCallN 2 F__law_less (aCons (eVar 5) (aCons (eVar 3) aNil))) (aCons (eCallN 2 F__law_less (aCons (eVar 6) (aCons (eVar 2) aNil))) aNil))) aNil))) (mgName 8)) (sSeq (sAsg (eCallN 2 F__law_try (aCons (eC (.str "circle")) (aCons (eVar 1) aNil))) (mgName 9)) (sSeq (sIf (eT (eOp fEq (eOp fIx (eVar 8) (eC (.int 0))) (eC (.int 0)))) (sIf (eT (eOp fNe (eVar 9) (eC (.str "circle")))) (sRet (eC (.bool false))) sNext) (sIf (mOr (eT (eOp fNotB (eCallN 1 F_is_curve (aCons (eVar 9) aNil)) (eC (.bool true)))) (mOr (eT (eOp fNe (eOp fIx (eVar 9) (eC (.int 0))) (eC (.int 1)))) (eT (eOp fNe (eLc (itL (eVar 1)) [15] (mgName 15) (eT (eOp fNe (eCallN 2 F__law_side (aCons (eVar 9) (aCons (eCallN 2 F__law_point (aCons (eOp fIx (eVar 15) (eC (.int 0))) (aCons (eOp fIx (eVar 15) (eC (.int 1))) aNil))) aNil))) (eC (.int 0)))) (eC (.int 1))) (eLst aNil))))) (sRet (eC (.bool false))) sNext)) (sSeq (sAsg (eCallN 2 F__law_try (aCons (eC (.str "line")) (aCons (eVar 1) aNil))) (mgName 10)) (sSeq (sIf (eT (eOp fEq (eOp fIx (eVar 1) (eC (.int 0))) (eOp fIx (eVar 1) (eC (.int 1))))) (sRet (eOp fEq (eVar 10) (eC (.str "line")))) sNext) (sSeq (sAsg (eVar 10) (mgTup 2 (mgCons (mgName 11) (mgCons (mgName 12) mgNil)))) (sSeq (sAsg (eCallN 2 F__law_point (aCons (eCallN 2 F__law_less (aCons (eVar 2) (aCons (eCallN 2 F__law_less (aCons (eVar 5) (aCons (eVar 3) aNil))) aNil))) (aCons (eCallN 2 F__law_add (aCons (eVar 3) (aCons (eCallN 2 F__law_less (aCons (eVar 4) (aCons (eVar 2) aNil))) aNil))) aNil))) (mgName 13)) (sSeq (sIf (mOr (eT (eOp fNe (eOp fIx (eVar 11) (eC (.int 0))) (eC (.int 0)))) (mOr (eT (eOp fNotB (eCallN 1 F_is_curve (aCons (eVar 11) aNil)) (eC (.bool true)))) (eT (eOp fNe (eLc (itL (eSl (eVar 1) oNone (oSome (eC (.int 2))))) [15] (mgName 15) (eT (eOp fNe (eCallN 2 F__law_side (aCons (eVar 11) (aCons (eCallN 2 F__law_point (aCons (eOp fIx (eVar 15) (eC (.int 0))) (aCons (eOp fIx (eVar 15) (eC (.int 1))) aNil))) aNil))) (eC (.int 0)))) (eC (.int 1))) (eLst aNil))))) (sRet (eC (.bool false))) sNext) (sRet (eCallN 2 F__law_says (aCons (eVar 12) (aCons (eOp fGt (eCallN 2 F__law_side (aCons (eVar 11) (aCons (eVar 13) aNil))) (eC (.int 0))) aNil))))))))))))))
def F_sign_of_root : List D → M D := bodyF 7 (sSeq (sAsg (eVar 0) (mgTup 3 (mgCons (mgName 1) (mgCons (mgName 2) (mgCons (mgName 3) mgNil))))) (sSeq (sPar 4 5 (aCons (eCallN 1 F_sign (aCons (eVar 1) aNil)) (aCons (eIf (eT (eOp fNe (eVar 3) (eC c_NOTHING))) (eCallN 1 F_sign (aCons (eVar 2) aNil)) (eC (.int 0))) aNil))) (sSeq (sIf (mOr (eT (eOp fEq (eVar 4) (eVar 5))) (eT (eOp fEq (eVar 5) (eC (.int 0))))) (sRet (eVar 4)) sNext) (sSeq (sIf (eT (eOp fEq (eVar 4) (eC (.int 0)))) (sRet (eVar 5)) sNext) (sSeq (sAsg (eCallN 1 F_sign (aCons (eCallN 2 F_minus (aCons (eCallN 1 F_square (aCons (eVar 1) aNil)) (aCons (eCallN 2 F_times (aCons (eCallN 1 F_square (aCons (eVar 2) aNil)) (aCons (eVar 3) aNil))) aNil))) aNil)) (mgName 6)) (sRet (eIf (eT (eOp fNe (eVar 6) (eC (.int 0)))) (eOp fMul (eVar 4) (eVar 6)) (eC (.int 0)))))))))
def F_sum_of : List D → M D := bodyF 3 (sSeq (sAsg (eC c_NOTHING) (mgName 1)) (sSeq (sFor (itL (eVar 0)) (mgName 2) (sAsg (eCallN 2 F_added (aCons (eVar 1) (aCons (eVar 2) aNil))) (mgName 1))) (sRet (eVar 1))))
def F_sign_of_two : List D → M D := bodyF 8 (sSeq (sIf (mOr (eT (eOp fEq (eVar 3) (eC c_NOTHING))) (eT (eOp fEq (eVar 4) (eC c_NOTHING)))) (sRet (eCallN 1 F_sign_of_root (aCons (eTup (aCons (eVar 0) (aCons (eVar 1) (aCons (eVar 2) aNil)))) aNil))) sNext) (sSeq (sAsg (eCallN 1 F_sign_of_root (aCons (eTup (aCons (eVar 0) (aCons (eVar 1) (aCons (eVar 2) aNil)))) aNil)) (mgName 5)) (sSeq (sAsg (eCallN 1 F_sign (aCons (eVar 3) aNil)) (mgName 6)) (sSeq (sIf (mOr (eT (eOp fEq (eVar 5) (eC (.int 0)))) (eT (eOp fEq (eVar 5) (eVar 6)))) (sRet (eVar 6)) sNext) (sSeq (sAsg (eTup (aCons (eCallN 2 F_minus (aCons (eCallN 1 F_sum_of (aCons (eLst (aCons (eCallN 1 F_square (aCons (eVar 0) aNil)) (aCons (eCallN 2 F_times (aCons (eCallN 1 F_square (aCons (eVar 1) aNil)) (aCons (eVar 2) aNil))) aNil))) aNil)) (aCons (eCallN 2 F_times (aCons (eCallN 1 F_square (aCons (eVar 3) aNil)) (aCons (eVar 4) aNil))) aNil))) (aCons (eCallN 2 F_times (aCons (eTup (aCons (eC (.int 2)) (aCons (eC (.int 1)) aNil))) (aCons (eCallN 2 F_times (aCons (eVar 0) (aCons (eVar 1) aNil))) aNil))) (aCons (eVar 2) aNil)))) (mgName 7)) (sRet (eOp fMul (eVar 5) (eCallN 1 F_sign_of_root (aCons (eVar 7) aNil)))))))))
def F_compare : List D → M D := bodyF 8 (sSeq (sAsg (eVar 0) (mgTup 3 (mgCons (mgName 2) (mgCons (mgName 3) (mgCons (mgName 4) mgNil))))) (sSeq (sAsg (eVar 1) (mgTup 3 (mgCons (mgName 5) (mgCons (mgName 6) (mgCons (mgName 7) mgNil))))) (sRet (eCallN 5 F_sign_of_two (aCons (eCallN 2 F_minus (aCons (eVar 2) (aCons (eVar 5) aNil))) (aCons (eVar 3) (aCons (eVar 4) (aCons (eCallN 1 F_turned (aCons (eVar 6) aNil)) (aCons (eVar 7) aNil)))))))))
def F_compare_points : List D → M D := bodyF 3 (sSeq (sAsg (eCallN 2 F_compare (aCons (eOp fIx (eVar 0) (eC (.int 0))) (aCons (eOp fIx (eVar 1) (eC (.int 0))) aNil))) (mgName 2)) (sRet (eIf (eT (eOp fNe (eVar 2) (eC (.int 0)))) (eVar 2) (eCallN 2 F_compare (aCons (eOp fIx (eVar 0) (eC (.int 1))) (aCons (eOp fIx (eVar 1) (eC (.int 1))) aNil))))))
def F_in_order : List D → M D := bodyF 5 (sSeq (sOwn 1 aNil) (sSeq (sFor (itL (eVar 0)) (mgName 2) (sSeq (sAsg (eCall fLen (aCons (eLc (itO 1) [4] (mgName 4) (eT (eOp fLt (eCallN 2 F_compare_points (aCons (eVar 4) (aCons (eVar 2) aNil))) (eC (.int 0)))) (eVar 4)) aNil)) (mgName 3)) (sIf (mOr (eT (eOp fEq (eVar 3) (eLenO 1))) (eT (eOp fNe (eCallN 2 F_compare_points (aCons (eIxO 1 (eVar 3)) (aCons (eVar 2) aNil))) (eC (.int 0))))) (sIns 1 (aCons (eVar 3) (aCons (eVar 2) aNil))) sNext))) (sFreeze 1 (sRet (eVar 1)))))
def F_of_lines : List D → M D := bodyF 11 (sSeq (sAsg (eVar 0) (mgTup 4 (mgCons (mgName 2) (mgCons (mgName 3) (mgCons (mgName 4) (mgCons (mgName 5) mgNil)))))) (sSeq (sAsg (eVar 1) (mgTup 4 (mgCons (mgName 2) (mgCons (mgName 6) (mgCons (mgName 7) (mgCons (mgName 8) mgNil)))))) (sSeq (sAsg (eCallN 2 F_minus (aCons (eCallN 2 F_times (aCons (eVar 3) (aCons (eVar 7) aNil))) (aCons (eCallN 2 F_times (aCons (eVar 4) (aCons (eVar 6) aNil))) aNil))) (mgName 9)) (sSeq (sIf (eT (eOp fEq (eVar 9) (eC c_NOTHING))) (sRet (eLst aNil)) sNext) (sSeq (sAsg (eCallN 2 F_over (aCons (eCallN 2 F_minus (aCons (eCallN 2 F_times (aCons (eVar 4) (aCons (eVar 8) aNil))) (aCons (eCallN 2 F_times (aCons (eVar 5) (aCons (eVar 7) aNil))) aNil))) (aCons (eVar 9) aNil))) (mgName 10)) (sRet (eLst (aCons (eTup (aCons (eCallN 1 F_plain (aCons (eVar 10) aNil)) (aCons (eCallN 1 F_plain (aCons (eCallN 2 F_over (aCons (eCallN 2 F_minus (aCons (eCallN 2 F_times (aCons (eVar 5) (aCons (eVar 6) aNil))) (aCons (eCallN 2 F_times (aCons (eVar 3) (aCons (eVar 8) aNil))) aNil))) (aCons (eVar 9) aNil))) aNil)) aNil))) aNil))))))))
def F_is_upright : List D → M D := bodyF 1 (sRet (eAnd (eOp fEq (eOp fIx (eVar 0) (eC (.int 0))) (eC (.int 0))) (eOp fEq (eOp fIx (eVar 0) (eC (.int 2))) (eC c_NOTHING))))
def F_both_roots : List D → M D := bodyF 7 (sSeq (sAsg (eCallN 2 F_minus (aCons (eCallN 1 F_square (aCons (eVar 1) aNil)) (aCons (eCallN 2 F_times (aCons (eTup (aCons (eC (.int 4)) (aCons (eC (.int 1)) aNil))) (aCons (eCallN 2 F_times (aCons (eVar 0) (aCons (eVar 2) aNil))) aNil))) aNil))) (mgName 3)) (sSeq (sIf (eT (eOp fLt (eCallN 1 F_sign (aCons (eVar 3) aNil)) (eC (.int 0)))) (sRet (eLst aNil)) sNext) (sSeq (sAsg (eCallN 2 F_times (aCons (eTup (aCons (eC (.int 2)) (aCons (eC (.int 1)) aNil))) (aCons (eVar 0) aNil))) (mgName 4)) (sSeq (sPar 5 6 (aCons (eCallN 2 F_over (aCons (eCallN 1 F_turned (aCons (eVar 1) aNil)) (aCons (eVar 4) aNil))) (aCons (eCallN 2 F_over (aCons (eTup (aCons (eC (.int 1)) (aCons (eC (.int 1)) aNil))) (aCons (eVar 4) aNil))) aNil))) (sSeq (sIf (eT (eOp fEq (eVar 3) (eC c_NOTHING))) (sRet (eLst (aCons (eCallN 1 F_plain (aCons (eVar 5) aNil)) aNil))) sNext) (sSeq (sAsg (eIf (eT (eOp fGt (eCallN 1 F_sign (aCons (eVar 6) aNil)) (eC (.int 0)))) (eVar 6) (eCallN 1 F_turned (aCons (eVar 6) aNil))) (mgName 6)) (sRet (eLst (aCons (eCallN 3 F_tidy (aCons (eVar 5) (aCons (eCallN 1 F_turned (aCons (eVar 6) aNil)) (aCons (eVar 3) aNil)))) (aCons (eCallN 3 F_tidy (aCons (eVar 5) (aCons (eVar 6) (aCons (eVar 3) aNil)))) aNil))))))))))
def F_added_root : List D → M D := bodyF 3 (sSeq (sAsg (eIf (eT (eOp fNe (eOp fIx (eVar 0) (eC (.int 1))) (eC c_NOTHING))) (eOp fIx (eVar 0) (eC (.int 2))) (eOp fIx (eVar 1) (eC (.int 2)))) (mgName 2)) (sRet (eCallN 3 F_tidy (aCons (eCallN 2 F_added (aCons (eOp fIx (eVar 0) (eC (.int 0))) (aCons (eOp fIx (eVar 1) (eC (.int 0))) aNil))) (aCons (eCallN 2 F_added (aCons (eOp fIx (eVar 0) (eC (.int 1))) (aCons (eOp fIx (eVar 1) (eC (.int 1))) aNil))) (aCons (eVar 2) aNil))))))
def F_by_fraction : List D → M D := bodyF 2 (sRet (eCallN 3 F_tidy (aCons (eCallN 2 F_times (aCons (eOp fIx (eVar 0) (eC (.int 0))) (aCons (eVar 1) aNil))) (aCons (eCallN 2 F_times (aCons (eOp fIx (eVar 0) (eC (.int 1))) (aCons (eVar 1) aNil))) (aCons (eOp fIx (eVar 0) (eC (.int 2))) aNil)))))
def F_of_line_and_circle : List D → M D := bodyF 16 (sSeq (sAsg (eVar 0) (mgTup 4 (mgCons (mgName 2) (mgCons (mgName 3) (mgCons (mgName 4) (mgCons (mgName 5) mgNil)))))) (sSeq (sAsg (eVar 1) (mgTup 4 (mgCons (mgName 2) (mgCons (mgName 6) (mgCons (mgName 7) (mgCons (mgName 8) mgNil)))))) (sSeq (sIf (eT (eCallN 1 F_is_upright (aCons (eVar 0) aNil))) (sSeq (sAsg (eCallN 1 F_turned (aCons (eVar 5) aNil)) (mgName 9)) (sSeq (sAsg (eCallN 3 F_both_roots (aCons (eTup (aCons (eC (.int 1)) (aCons (eC (.int 1)) aNil))) (aCons (eVar 7) (aCons (eCallN 1 F_sum_of (aCons (eLst (aCons (eCallN 1 F_square (aCons (eVar 9) aNil)) (aCons (eCallN 2 F_times (aCons (eVar 6) (aCons (eVar 9) aNil))) (aCons (eVar 8) aNil)))) aNil)) aNil)))) (mgName 10)) (sRet (eLc (itL (eVar 10)) [15] (mgName 15) mYes (eTup (aCons (eCallN 1 F_plain (aCons (eVar 9) aNil)) (aCons (eVar 15) aNil))))))) sNext) (sSeq (sAsg (eTup (aCons (eCallN 2 F_over (aCons (eCallN 1 F_turned (aCons (eVar 3) aNil)) (aCons (eVar 4) aNil))) (aCons (eCallN 2 F_over (aCons (eCallN 1 F_turned (aCons (eVar 5) aNil)) (aCons (eVar 4) aNil))) aNil))) (mgTup 2 (mgCons (mgName 11) (mgCons (mgName 12) mgNil)))) (sSeq (sAsg (eCallN 2 F_added (aCons (eTup (aCons (eC (.int 1)) (aCons (eC (.int 1)) aNil))) (aCons (eCallN 1 F_square (aCons (eVar 11) aNil)) aNil))) (mgName 13)) (sSeq (sAsg (eCallN 1 F_sum_of (aCons (eLst (aCons (eCallN 2 F_times (aCons (eTup (aCons (eC (.int 2)) (aCons (eC (.int 1)) aNil))) (aCons (eCallN 2 F_times (aCons (eVar 11) (aCons (eVar 12) aNil))) aNil))) (aCons (eVar 6) (aCons (eCallN 2 F_times (aCons (eVar 7) (aCons (eVar 11) aNil))) aNil)))) aNil)) (mgName 14)) (sSeq (sAsg (eCallN 3 F_both_roots (aCons (eVar 13) (aCons (eVar 14) (aCons (eCallN 1 F_sum_of (aCons (eLst (aCons (eCallN 1 F_square (aCons (eVar 12) aNil)) (aCons (eCallN 2 F_times (aCons (eVar 7) (aCons (eVar 12) aNil))) (aCons (eVar 8) aNil)))) aNil)) aNil)))) (mgName 10)) (sRet (eLc (itL (eVar 10)) [9] (mgName 9) mYes (eTup (aCons (eVar 9) (aCons (eCallN 2 F_added_root (aCons (eCallN 2 F_by_fraction (aCons (eVar 9) (aCons (eVar 11) aNil))) (aCons (eCallN 1 F_plain (aCons (eVar 12) aNil)) aNil))) aNil))))))))))))
def F_same_power : List D → M D := bodyF 6 (sSeq (sPar3 2 3 4 (aCons (eCallN 2 F_minus (aCons (eOp fIx (eVar 0) (eC (.int 1))) (aCons (eOp fIx (eVar 1) (eC (.int 1))) aNil))) (aCons (eCallN 2 F_minus (aCons (eOp fIx (eVar 0) (eC (.int 2))) (aCons (eOp fIx (eVar 1) (eC (.int 2))) aNil))) (aCons (eCallN 2 F_minus (aCons (eOp fIx (eVar 0) (eC (.int 3))) (aCons (eOp fIx (eVar 1) (eC (.int 3))) aNil))) aNil)))) (sSeq (sAsg (eIf (eT (eOp fNe (eVar 2) (eC c_NOTHING))) (eVar 2) (eVar 3)) (mgName 5)) (sSeq (sIf (eT (eOp fEq (eVar 5) (eC c_NOTHING))) (sRet (eC .none)) sNext) (sRet (eTup (aCons (eC (.int 0)) (aCons (eCallN 2 F_over (aCons (eVar 2) (aCons (eVar 5) aNil))) (aCons (eCallN 2 F_over (aCons (eVar 3) (aCons (eVar 5) aNil))) (aCons (eCallN 2 F_over (aCons (eVar 4) (aCons (eVar 5) aNil))) aNil)))))))))
def F_meets : List D → M D := bodyF 4 (sSeq (sIf (mAnd (eT (eOp fEq (eOp fIx (eVar 0) (eC (.int 0))) (eC (.int 0)))) (eT (eOp fEq (eOp fIx (eVar 1) (eC (.int 0))) (eC (.int 0))))) (sAsg (eCallN 2 F_of_lines (aCons (eVar 0) (aCons (eVar 1) aNil))) (mgName 2)) (sIf (eT (eOp fEq (eOp fIx (eVar 0) (eC (.int 0))) (eC (.int 0)))) (sAsg (eCallN 2 F_of_line_and_circle (aCons (eVar 0) (aCons (eVar 1) aNil))) (mgName 2)) (sIf (eT (eOp fEq (eOp fIx (eVar 1) (eC (.int 0))) (eC (.int 0)))) (sAsg (eCallN 2 F_of_line_and_circle (aCons (eVar 1) (aCons (eVar 0) aNil))) (mgName 2)) (sSeq (sAsg (eCallN 2 F_same_power (aCons (eVar 0) (aCons (eVar 1) aNil))) (mgName 3)) (sAsg (eIf (eT (eOp fNotN (eVar 3) (eC .none))) (eCallN 2 F_of_line_and_circle (aCons (eVar 3) (aCons (eVar 0) aNil))) (eLst aNil)) (mgName 2)))))) (sRet (eCallN 1 F_in_order (aCons (eVar 2) aNil))))
def F__law_apart : List D → M D := bodyF 4 (sSeq (sPar 2 3 (aCons (eCallN 2 F__law_less (aCons (eOp fIx (eVar 0) (eC (.int 0))) (aCons (eOp fIx (eVar 1) (eC (.int 0))) aNil))) (aCons (eCallN 2 F__law_less (aCons (eOp fIx (eVar 0) (eC (.int 1))) (aCons (eOp fIx (eVar 1) (eC (.int 1))) aNil))) aNil))) (sRet (eCallN 2 F__law_add (aCons (eCallN 2 F__law_mul (aCons (eVar 2) (aCons (eVar 2) aNil))) (aCons (eCallN 2 F__law_mul (aCons (eVar 3) (aCons (eVar 3) aNil))) aNil)))))
def F__law_radius : List D → M D := bodyF 3 (sSeq (sAsg (eCallN 1 F__law_middle (aCons (eVar 0) aNil)) (mgTup 2 (mgCons (mgName 1) (mgCons (mgName 2) mgNil)))) (sRet (eCallN 2 F__law_less (aCons (eCallN 2 F__law_add (aCons (eCallN 2 F__law_mul (aCons (eVar 1) (aCons (eVar 1) aNil))) (aCons (eCallN 2 F__law_mul (aCons (eVar 2) (aCons (eVar 2) aNil))) aNil))) (aCons (eOp fIx (eVar 0) (eC (.int 3))) aNil)))))
def F__law_many : List D → M D := bodyF 12 (sSeq (sIf (mAnd (eT (eOp fEq (eOp fIx (eVar 0) (eC (.int 0))) (eC (.int 0)))) (eT (eOp fEq (eOp fIx (eVar 1) (eC (.int 0))) (eC (.int 0))))) (sSeq (sAsg (eCallN 2 F__law_less (aCons (eCallN 2 F__law_mul (aCons (eOp fIx (eVar 0) (eC (.int 1))) (aCons (eOp fIx (eVar 1) (eC (.int 2))) aNil))) (aCons (eCallN 2 F__law_mul (aCons (eOp fIx (eVar 0) (eC (.int 2))) (aCons (eOp fIx (eVar 1) (eC (.int 1))) aNil))) aNil))) (mgName 2)) (sRet (eIf (eT (eOp fNe (eOp fIx (eVar 2) (eC (.int 0))) (eC (.int 0)))) (eC (.int 1)) (eC (.int 0))))) sNext) (sSeq (sIf (mAnd (eT (eOp fEq (eOp fIx (eVar 0) (eC (.int 0))) (eC (.int 1)))) (eT (eOp fEq (eOp fIx (eVar 1) (eC (.int 0))) (eC (.int 1))))) (sSeq (sPar3 3 4 5 (aCons (eCallN 2 F__law_apart (aCons (eCallN 1 F__law_middle (aCons (eVar 0) aNil)) (aCons (eCallN 1 F__law_middle (aCons (eVar 1) aNil)) aNil))) (aCons (eCallN 1 F__law_radius (aCons (eVar 0) aNil)) (aCons (eCallN 1 F__law_radius (aCons (eVar 1) aNil)) aNil)))) (sSeq (sAsg (eCallN 2 F__law_less (aCons (eVar 3) (aCons (eCallN 2 F__law_add (aCons (eVar 4) (aCons (eVar 5) aNil))) aNil))) (mgName 6)) (sSeq (sAsg (eCallN 1 F__law_sgn (aCons (eCallN 2 F__law_less (aCons (eCallN 2 F__law_mul (aCons (eVar 6) (aCons (eVar 6) aNil))) (aCons (eCallN 2 F__law_mul (aCons (eTup (aCons (eC (.int 4)) (aCons (eC (.int 1)) aNil))) (aCons (eCallN 2 F__law_mul (aCons (eVar 4) (aCons (eVar 5) aNil))) aNil))) aNil))) aNil)) (mgName 7)) (sRet (eIf (eT (eOp fLt (eVar 7) (eC (.int 0)))) (eC (.int 2)) (eIf (eT (eOp fEq (eVar 7) (eC (.int 0)))) (eC (.int 1)) (eC (.int 0)))))))) sNext) (sSeq (sAsg (eIf (eT (eOp fEq (eOp fIx (eVar 0) (eC (.int 0))) (eC (.int 0)))) (eTup (aCons (eVar 0) (aCons (eVar 1) aNil))) (eTup (aCons (eVar 1) (aCons (eVar 0) aNil)))) (mgTup 2 (mgCons (mgName 8) (mgCons (mgName 9) mgNil)))) (sSeq (sAsg (eOp fIx (eCallN 2 F__law_value (aCons (eVar 8) (aCons (eCallN 2 F__law_point (aCons (eOp fIx (eCallN 1 F__law_middle (aCons (eVar 9) aNil)) (eC (.int 0))) (aCons (eOp fIx (eCallN 1 F__law_middle (aCons (eVar 9) aNil)) (eC (.int 1))) aNil))) aNil))) (eC (.int 0))) (mgName 10)) (sSeq (sAsg (eCallN 2 F__law_add (aCons (eCallN 2 F__law_mul (aCons (eOp fIx (eVar 8) (eC (.int 1))) (aCons (eOp fIx (eVar 8) (eC (.int 1))) aNil))) (aCons (eCallN 2 F__law_mul (aCons (eOp fIx (eVar 8) (eC (.int 2))) (aCons (eOp fIx (eVar 8) (eC (.int 2))) aNil))) aNil))) (mgName 11)) (sRet (eOp fAdd (eC (.int 1)) (eCallN 1 F__law_sgn (aCons (eCallN 2 F__law_less (aCons (eCallN 2 F__law_mul (aCons (eCallN 1 F__law_radius (aCons (eVar 9) aNil)) (aCons (eVar 11) aNil))) (aCons (eCallN 2 F__law_mul (aCons (eVar 10) (aCons (eVar 10) aNil))) aNil))) aNil)))))))))
def F_touch_kind : List D → M D := bodyF 11 (sSeq (sIf (eT (eOp fEq (eVar 0) (eVar 1))) (sRet (eC (.str "same"))) sNext) (sSeq (sAsg (eTup (aCons (eCallN 1 F_middle_of (aCons (eVar 0) aNil)) (aCons (eCallN 1 F_middle_of (aCons (eVar 1) aNil)) aNil))) (mgTup 2 (mgCons (mgTup 2 (mgCons (mgName 2) (mgCons (mgName 3) mgNil))) (mgCons (mgTup 2 (mgCons (mgName 4) (mgCons (mgName 5) mgNil))) mgNil)))) (sSeq (sAsg (eCallN 2 F_added (aCons (eCallN 1 F_square (aCons (eCallN 2 F_minus (aCons (eVar 2) (aCons (eVar 4) aNil))) aNil)) (aCons (eCallN 1 F_square (aCons (eCallN 2 F_minus (aCons (eVar 3) (aCons (eVar 5) aNil))) aNil)) aNil))) (mgName 6)) (sSeq (sPar 7 8 (aCons (eCallN 1 F_radius_of (aCons (eVar 0) aNil)) (aCons (eCallN 1 F_radius_of (aCons (eVar 1) aNil)) aNil))) (sSeq (sAsg (eCallN 2 F_minus (aCons (eVar 6) (aCons (eCallN 2 F_added (aCons (eVar 7) (aCons (eVar 8) aNil))) aNil))) (mgName 9)) (sSeq (sAsg (eCallN 1 F_sign (aCons (eCallN 2 F_minus (aCons (eCallN 1 F_square (aCons (eVar 9) aNil)) (aCons (eCallN 2 F_times (aCons (eTup (aCons (eC (.int 4)) (aCons (eC (.int 1)) aNil))) (aCons (eCallN 2 F_times (aCons (eVar 7) (aCons (eVar 8) aNil))) aNil))) aNil))) aNil)) (mgName 10)) (sSeq (sIf (eT (eOp fLt (eVar 10) (eC (.int 0)))) (sRet (eC (.str "cross"))) sNext) (sSeq (sIf (eT (eOp fGt (eCallN 1 F_sign (aCons (eVar 9) aNil)) (eC (.int 0)))) (sRet (eIf (eT (eOp fEq (eVar 10) (eC (.int 0)))) (eC (.str "touch")) (eC (.str "apart")))) sNext) (sSeq (sIf (eT (eOp fEq (eVar 10) (eC (.int 0)))) (sRet (eC (.str "touch within"))) sNext) (sRet (eIf (eT (eOp fLt (eCallN 1 F_sign (aCons (eCallN 2 F_minus (aCons (eVar 7) (aCons (eVar 8) aNil))) aNil)) (eC (.int 0)))) (eC (.str "within")) (eC (.str "round")))))))))))))
def F__law_kind : List D → M D := bodyF 7 (sSeq (sPar3 2 3 4 (aCons (eCallN 2 F__law_apart (aCons (eCallN 1 F__law_middle (aCons (eVar 0) aNil)) (aCons (eCallN 1 F__law_middle (aCons (eVar 1) aNil)) aNil))) (aCons (eCallN 1 F__law_radius (aCons (eVar 0) aNil)) (aCons (eCallN 1 F__law_radius (aCons (eVar 1) aNil)) aNil)))) (sSeq (sPar 5 6 (aCons (eCallN 2 F__law_many (aCons (eVar 0) (aCons (eVar 1) aNil))) (aCons (eCallN 1 F__law_sgn (aCons (eCallN 2 F__law_less (aCons (eVar 2) (aCons (eCallN 2 F__law_add (aCons (eVar 3) (aCons (eVar 4) aNil))) aNil))) aNil)) aNil))) (sSeq (sIf (eT (eOp fEq (eVar 5) (eC (.int 2)))) (sRet (eC (.str "cross"))) sNext) (sSeq (sIf (eT (eOp fEq (eVar 5) (eC (.int 1)))) (sRet (eIf (eT (eOp fGt (eVar 6) (eC (.int 0)))) (eC (.str "touch")) (eC (.str "touch within")))) sNext) (sSeq (sIf (eT (eOp fGt (eVar 6) (eC (.int 0)))) (sRet (eC (.str "apart"))) sNext) (sRet (eIf (eT (eOp fLt (eCallN 1 F__law_sgn (aCons (eCallN 2 F__law_less (aCons (eVar 3) (aCons (eVar 4) aNil))) aNil)) (eC (.int 0)))) (eC (.str "within")) (eC (.str "round")))))))))
def F_times_root : List D → M D := bodyF 4 (sSeq (sAsg (eIf (eT (eOp fNe (eOp fIx (eVar 0) (eC (.int 1))) (eC c_NOTHING))) (eOp fIx (eVar 0) (eC (.int 2))) (eOp fIx (eVar 1) (eC (.int 2)))) (mgName 2)) (sSeq (sAsg (eCallN 2 F_added (aCons (eCallN 2 F_times (aCons (eOp fIx (eVar 0) (eC (.int 0))) (aCons (eOp fIx (eVar 1) (eC (.int 0))) aNil))) (aCons (eCallN 2 F_times (aCons (eCallN 2 F_times (aCons (eOp fIx (eVar 0) (eC (.int 1))) (aCons (eOp fIx (eVar 1) (eC (.int 1))) aNil))) (aCons (eVar 2) aNil))) aNil))) (mgName 3)) (sRet (eCallN 3 F_tidy (aCons (eVar 3) (aCons (eCallN 2 F_added (aCons (eCallN 2 F_times (aCons (eOp fIx (eVar 0) (eC (.int 0))) (aCons (eOp fIx (eVar 1) (eC (.int 1))) aNil))) (aCons (eCallN 2 F_times (aCons (eOp fIx (eVar 0) (eC (.int 1))) (aCons (eOp fIx (eVar 1) (eC (.int 0))) aNil))) aNil))) (aCons (eVar 2) aNil)))))))
def F_value_at : List D → M D := bodyF 5 (sSeq (sAsg (eVar 1) (mgTup 2 (mgCons (mgName 2) (mgCons (mgName 3) mgNil)))) (sSeq (sAsg (eCallN 2 F_added_root (aCons (eCallN 2 F_by_fraction (aCons (eVar 2) (aCons (eOp fIx (eVar 0) (eC (.int 1))) aNil))) (aCons (eCallN 2 F_by_fraction (aCons (eVar 3) (aCons (eOp fIx (eVar 0) (eC (.int 2))) aNil))) aNil))) (mgName 4)) (sSeq (sAsg (eCallN 2 F_added_root (aCons (eVar 4) (aCons (eCallN 1 F_plain (aCons (eOp fIx (eVar 0) (eC (.int 3))) aNil)) aNil))) (mgName 4)) (sSeq (sIf (eT (eOp fEq (eOp fIx (eVar 0) (eC (.int 0))) (eC (.int 1)))) (sAsg (eCallN 2 F_added_root (aCons (eVar 4) (aCons (eCallN 2 F_added_root (aCons (eCallN 2 F_times_root (aCons (eVar 2) (aCons (eVar 2) aNil))) (aCons (eCallN 2 F_times_root (aCons (eVar 3) (aCons (eVar 3) aNil))) aNil))) aNil))) (mgName 4)) sNext) (sRet (eVar 4))))))
def F_sign_at : List D → M D := bodyF 2 (sRet (eCallN 1 F_sign_of_root (aCons (eCallN 2 F_value_at (aCons (eVar 0) (aCons (eVar 1) aNil))) aNil)))
def F__law_compare : List D → M D := bodyF 12 (sSeq (sAsg (eTup (aCons (eVar 0) (aCons (eVar 1) aNil))) (mgTup 2 (mgCons (mgTup 3 (mgCons (mgName 2) (mgCons (mgName 3) (mgCons (mgName 4) mgNil)))) (mgCons (mgTup 3 (mgCons (mgName 5) (mgCons (mgName 6) (mgCons (mgName 7) mgNil)))) mgNil)))) (sSeq (sPar 8 9 (aCons (eCallN 1 F__law_sign (aCons (eTup (aCons (eCallN 2 F__law_less (aCons (eVar 2) (aCons (eVar 5) aNil))) (aCons (eVar 3) (aCons (eVar 4) aNil)))) aNil)) (aCons (eIf (eT (eOp fGt (eOp fIx (eVar 7) (eC (.int 0))) (eC (.int 0)))) (eOp fSub (eC (.int 0)) (eCallN 1 F__law_sgn (aCons (eVar 6) aNil))) (eC (.int 0))) aNil))) (sSeq (sIf (mOr (eT (eOp fEq (eVar 9) (eC (.int 0)))) (eT (eOp fEq (eVar 8) (eVar 9)))) (sRet (eVar 8)) sNext) (sSeq (sIf (eT (eOp fEq (eVar 8) (eC (.int 0)))) (sRet (eVar 9)) sNext) (sSeq (sAsg (eCallN 2 F__law_less (aCons (eVar 2) (aCons (eVar 5) aNil))) (mgName 10)) (sSeq (sAsg (eCallN 2 F__law_less (aCons (eCallN 2 F__law_add (aCons (eCallN 2 F__law_mul (aCons (eVar 10) (aCons (eVar 10) aNil))) (aCons (eCallN 2 F__law_mul (aCons (eCallN 2 F__law_mul (aCons (eVar 3) (aCons (eVar 3) aNil))) (aCons (eVar 4) aNil))) aNil))) (aCons (eCallN 2 F__law_mul (aCons (eCallN 2 F__law_mul (aCons (eVar 6) (aCons (eVar 6) aNil))) (aCons (eVar 7) aNil))) aNil))) (mgName 11)) (sRet (eOp fMul (eVar 8) (eCallN 1 F__law_sign (aCons (eTup (aCons (eVar 11) (aCons (eCallN 2 F__law_mul (aCons (eTup (aCons (eC (.int 2)) (aCons (eC (.int 1)) aNil))) (aCons (eCallN 2 F__law_mul (aCons (eVar 10) (aCons (eVar 3) aNil))) aNil))) (aCons (eVar 4) aNil)))) aNil))))))))))
def F__law_before : List D → M D := bodyF 3 (sSeq (sAsg (eCallN 2 F__law_compare (aCons (eOp fIx (eVar 0) (eC (.int 0))) (aCons (eOp fIx (eVar 1) (eC (.int 0))) aNil))) (mgName 2)) (sRet (eIf (eT (eOp fNe (eVar 2) (eC (.int 0)))) (eVar 2) (eCallN 2 F__law_compare (aCons (eOp fIx (eVar 0) (eC (.int 1))) (aCons (eOp fIx (eVar 1) (eC (.int 1))) aNil))))))
def F_is_root : List D → M D := bodyF 2 (sSeq (sIf (mOr (mNot (eT (eUn (fIsi "tuple") (eVar 0)))) (mOr (eT (eOp fNe (eCall fLen (aCons (eVar 0) aNil)) (eC (.int 3)))) (mNot (eT (eCall fAll (aCons (eLc (itT (eVar 0)) [1] (mgName 1) mYes (eCallN 1 F_is_fraction (aCons (eVar 1) aNil))) aNil)))))) (sRet (eC (.bool false))) sNext) (sRet (eAnd (eOp fGe (eOp fIx (eOp fIx (eVar 0) (eC (.int 2))) (eC (.int 0))) (eC (.int 0))) (eOp fEq (eOp fNe (eOp fIx (eVar 0) (eC (.int 1))) (eC c_NOTHING)) (eOp fNe (eOp fIx (eVar 0) (eC (.int 2))) (eC c_NOTHING))))))
def F_is_point : List D → M D := bodyF 2 (sSeq (sIf (mOr (mNot (eT (eUn (fIsi "tuple") (eVar 0)))) (mOr (eT (eOp fNe (eCall fLen (aCons (eVar 0) aNil)) (eC (.int 2)))) (mNot (eT (eCall fAll (aCons (eLc (itT (eVar 0)) [1] (mgName 1) mYes (eCallN 1 F_is_root (aCons (eVar 1) aNil))) aNil)))))) (sRet (eC (.bool false))) sNext) (sRet (eOr (eOp fEq (eOp fIx (eOp fIx (eOp fIx (eVar 0) (eC (.int 0))) (eC (.int 2))) (eC (.int 0))) (eC (.int 0))) (eOr (eOp fEq (eOp fIx (eOp fIx (eOp fIx (eVar 0) (eC (.int 1))) (eC (.int 2))) (eC (.int 0))) (eC (.int 0))) (eOp fEq (eOp fIx (eOp fIx (eVar 0) (eC (.int 0))) (eC (.int 2))) (eOp fIx (eOp fIx (eVar 0) (eC (.int 1))) (eC (.int 2))))))))
def F__law_meets : List D → M D := bodyF 6 (sSeq (sAsg (eCallN 2 F_meets (aCons (eVar 1) (aCons (eVar 2) aNil))) (mgName 3)) (sSeq (sIf (mOr (mNot (eT (eUn (fIsi "list") (eVar 3)))) (eT (eOp fNe (eCall fLen (aCons (eVar 3) aNil)) (eCallN 2 F__law_many (aCons (eVar 1) (aCons (eVar 2) aNil)))))) (sRet (eC (.bool false))) sNext) (sSeq (sIf (eT (eOp fNe (eLc (itL (eVar 3)) [4] (mgName 4) (mOr (eT (eOp fNotB (eCallN 1 F_is_point (aCons (eVar 4) aNil)) (eC (.bool true)))) (mOr (eT (eOp fNe (eCallN 2 F__law_side (aCons (eVar 1) (aCons (eVar 4) aNil))) (eC (.int 0)))) (eT (eOp fNe (eCallN 2 F__law_side (aCons (eVar 2) (aCons (eVar 4) aNil))) (eC (.int 0)))))) (eVar 4)) (eLst aNil))) (sRet (eC (.bool false))) sNext) (sSeq (sIf (mAnd (eT (eOp fEq (eCall fLen (aCons (eVar 3) aNil)) (eC (.int 2)))) (mOr (eT (eOp fGe (eCallN 2 F__law_before (aCons (eOp fIx (eVar 3) (eC (.int 0))) (aCons (eOp fIx (eVar 3) (eC (.int 1))) aNil))) (eC (.int 0)))) (eT (eOp fNe (eCallN 2 F_compare_points (aCons (eOp fIx (eVar 3) (eC (.int 1))) (aCons (eOp fIx (eVar 3) (eC (.int 0))) aNil))) (eC (.int 1)))))) (sRet (eC (.bool false))) sNext) (sSeq (sIf (mAnd (eT (eOp fEq (eOp fIx (eVar 1) (eC (.int 0))) (eC (.int 1)))) (mAnd (eT (eOp fEq (eOp fIx (eVar 2) (eC (.int 0))) (eC (.int 1)))) (eT (eOp fNe (eCallN 2 F_touch_kind (aCons (eVar 1) (aCons (eVar 2) aNil))) (eCallN 2 F__law_kind (aCons (eVar 1) (aCons (eVar 2) aNil))))))) (sRet (eC (.bool false))) sNext) (sSeq (sFor (itL (eVar 3)) (mgName 4) (sSeq (sAsg (eCallN 1 F__law_curve (aCons (eVar 0) aNil)) (mgName 5)) (sIf (eT (eOp fNe (eCallN 2 F_sign_at (aCons (eVar 5) (aCons (eVar 4) aNil))) (eCallN 2 F__law_side (aCons (eVar 5) (aCons (eVar 4) aNil))))) (sRet (eC (.bool false))) sNext))) (sRet (eC (.bool true)))))))))
def F_point_of : List D → M D := bodyF 2 (sRet (eTup (aCons (eCallN 1 F_plain (aCons (eVar 0) aNil)) (aCons (eCallN 1 F_plain (aCons (eVar 1) aNil)) aNil))))
def F__law_bent : List D → M D := bodyF 3 (sSeq (sAsg (eLst (aCons (eSl (eVar 1) oNone (oSome (eC (.int 3)))) (aCons (eOp fCatT (eTup (aCons (eC (.int 2)) aNil)) (eSl (eVar 1) (oSome (eC (.int 1))) oNone)) (aCons (eOp fCatT (eTup (aCons (eC (.bool true)) aNil)) (eSl (eVar 1) (oSome (eC (.int 1))) oNone)) (aCons (eCall fList (aCons (eVar 1) aNil)) (aCons (eOp fCatT (eOp fCatT (eSl (eVar 1) oNone (oSome (eC (.int 1)))) (eTup (aCons (eTup (aCons (eC (.int 2)) (aCons (eC (.int 2)) aNil))) aNil))) (eSl (eVar 1) (oSome (eC (.int 2))) oNone)) (aCons (eTup (aCons (eC (.int 0)) (aCons (eTup (aCons (eC (.int 0)) (aCons (eC (.int 1)) aNil))) (aCons (eTup (aCons (eC (.int 0)) (aCons (eC (.int 1)) aNil))) (aCons (eTup (aCons (eC (.int 1)) (aCons (eC (.int 1)) aNil))) aNil))))) aNil))))))) (mgName 2)) (sRet (eCallN 2 F__law_pick (aCons (eVar 0) (aCons (eOp fCatL (eVar 2) (eLst (aCons (eTup (aCons (eC (.int 0)) (aCons (eTup (aCons (eC (.int 2)) (aCons (eC (.int 1)) aNil))) (aCons (eTup (aCons (eC (.int 1)) (aCons (eC (.int 1)) aNil))) (aCons (eTup (aCons (eC (.int 0)) (aCons (eC (.int 1)) aNil))) aNil))))) (aCons (eTup (aCons (eC (.int 1)) (aCons (eTup (aCons (eC (.int 0)) (aCons (eC (.int 1)) aNil))) (aCons (eTup (aCons (eC (.int 0)) (aCons (eC (.int 1)) aNil))) (aCons (eTup (aCons (eC (.int 0)) (aCons (eC (.int 1)) aNil))) aNil))))) (aCons (eC .none) aNil))))) aNil)))))
def D_law : En → M D := (eCallN 2 F__law_draws (aCons (eVar 0) (aCons (eC (.int 900)) aNil)))
def R_law : MS := (sSeq (sFor (itR1 (aCons (eC (.int 8)) aNil)) (mgName 2) (sSeq (sAsg (eCallN 1 F__law_drawn (aCons (eVar 1) aNil)) (mgTup 2 (mgCons (mgName 3) (mgCons (mgName 4) mgNil)))) (sSeq (sIf (mOr (eT (eOp fNotB (eCallN 1 F_is_curve (aCons (eVar 3) aNil)) (eC (.bool true)))) (mNot (eT (eCallN 1 F__law_through (aCons (eVar 1) aNil))))) (sRet (eC (.bool false))) sNext) (sSeq (sIf (eT (eOp fEq (eOp fIx (eVar 3) (eC (.int 0))) (eC (.int 1)))) (sSeq (sAsg (eCallN 1 F__law_middle (aCons (eVar 3) aNil)) (mgTup 2 (mgCons (mgName 5) (mgCons (mgName 6) mgNil)))) (sIf (mOr (eT (eOp fNe (eCallN 1 F_middle_of (aCons (eVar 3) aNil)) (eTup (aCons (eVar 5) (aCons (eVar 6) aNil))))) (mOr (eT (eOp fNe (eCallN 1 F_radius_of (aCons (eVar 3) aNil)) (eCallN 1 F__law_radius (aCons (eVar 3) aNil)))) (mOr (eT (eOp fNe (eCallN 3 F_circle (aCons (eVar 5) (aCons (eVar 6) (aCons (eCallN 1 F__law_radius (aCons (eVar 3) aNil)) aNil)))) (eVar 3))) (eT (eOp fNe (eCallN 2 F_touch_kind (aCons (eVar 3) (aCons (eVar 3) aNil))) (eC (.str "same"))))))) (sRet (eC (.bool false))) sNext)) (sSeq (sAsg (eTup (aCons (eOp fSub (eCallN 2 F__law_next (aCons (eVar 1) (aCons (eC (.int 9)) aNil))) (eC (.int 4))) (aCons (eC (.int 1)) aNil))) (mgName 7)) (sIf (mAnd (eT (eOp fNe (eOp fIx (eVar 7) (eC (.int 0))) (eC (.int 0)))) (eT (eOp fNe (eCallN 3 F_line (aCons (eCallN 2 F__law_mul (aCons (eOp fIx (eVar 3) (eC (.int 1))) (aCons (eVar 7) aNil))) (aCons (eCallN 2 F__law_mul (aCons (eOp fIx (eVar 3) (eC (.int 2))) (aCons (eVar 7) aNil))) (aCons (eCallN 2 F__law_mul (aCons (eOp fIx (eVar 3) (eC (.int 3))) (aCons (eVar 7) aNil))) aNil)))) (eTup (aCons (eVar 3) (aCons (eOp fLt (eOp fIx (eVar 7) (eC (.int 0))) (eC (.int 0))) aNil)))))) (sRet (eC (.bool false))) sNext))) (sSeq (sIf (mAnd (eT (eOp fNe (eVar 3) (eVar 4))) (mNot (eT (eCallN 3 F__law_meets (aCons (eVar 1) (aCons (eVar 3) (aCons (eVar 4) aNil))))))) (sRet (eC (.bool false))) sNext) (sSeq (sAsg (eCallN 1 F_turns_of (aCons (eVar 3) aNil)) (mgName 8)) (sSeq (sIf (eT (eOp fNe (eCall fLen (aCons (eVar 8) aNil)) (eOp fMul (eC (.int 2)) (eOp fIx (eVar 3) (eC (.int 0)))))) (sRet (eC (.bool false))) sNext) (sSeq (sFor (itL (eVar 8)) (mgName 9) (sIf (mOr (eT (eOp fNe (eCallN 2 F__law_side (aCons (eVar 3) (aCons (eVar 9) aNil))) (eC (.int 0)))) (eT (eOp fNe (eCallN 2 F__law_compare (aCons (eOp fIx (eVar 9) (eC (.int 1))) (aCons (eTup (aCons (eOp fIx (eCallN 1 F__law_middle (aCons (eVar 3) aNil)) (eC (.int 1))) (aCons (eTup (aCons (eC (.int 0)) (aCons (eC (.int 1)) aNil))) (aCons (eTup (aCons (eC (.int 0)) (aCons (eC (.int 1)) aNil))) aNil)))) aNil))) (eC (.int 0))))) (sRet (eC (.bool false))) sNext)) (sSeq (sPar 5 6 (aCons (eCallN 1 F__law_small (aCons (eVar 1) aNil)) (aCons (eCallN 1 F__law_small (aCons (eVar 1) aNil)) aNil))) (sIf (mOr (eT (eOp fNe (eCallN 2 F_point_of (aCons (eVar 5) (aCons (eVar 6) aNil))) (eCallN 2 F__law_point (aCons (eVar 5) (aCons (eVar 6) aNil))))) (mOr (eT (eOp fNe (eCallN 2 F_sign_at (aCons (eVar 3) (aCons (eCallN 2 F__law_point (aCons (eVar 5) (aCons (eVar 6) aNil))) aNil))) (eCallN 2 F__law_side (aCons (eVar 3) (aCons (eCallN 2 F__law_point (aCons (eVar 5) (aCons (eVar 6) aNil))) aNil))))) (eT (eOp fNotB (eCallN 1 F_is_curve (aCons (eCallN 2 F__law_bent (aCons (eVar 1) (aCons (eVar 3) aNil))) aNil)) (eC (.bool false)))))) (sRet (eC (.bool false))) sNext)))))))))) (sRet (eOp fEq (eCallN 2 F__law_try (aCons (eC (.str "line")) (aCons (eLst (aCons (eTup (aCons (eTup (aCons (eC (.int 1)) (aCons (eC (.int 1)) aNil))) (aCons (eTup (aCons (eC (.int 1)) (aCons (eC (.int 1)) aNil))) aNil))) (aCons (eTup (aCons (eTup (aCons (eC (.int 1)) (aCons (eC (.int 1)) aNil))) (aCons (eTup (aCons (eC (.int 1)) (aCons (eC (.int 1)) aNil))) aNil))) aNil))) aNil))) (eC (.str "line")))))


/-! ### the meanings, step by step -/
local macro_rules | `(tactic| kpt_turns) => `(tactic| simp only [bodyF, env0, sSeq, sAsg, sRet, sIf, sPar, sPar3, sNext, sBreak, eCallN, eCall, aCons, aNil, eOp, eUn, eVar, eC, eT, eTup, eLst, eIf, eAnd, eOr, eNot, mAnd, mOr, mNot, mgName, mgTup, mgLst, mgCons, mgNil,
  fI, fAdd, fSub, fMul, fDiv, fMod, fLt, fLe, fGt, fGe, fIx, fNeg, fLen, fAbs, fIsN, fNotN, fIsB, fNotB, fSubB, true_and, and_true, List.map_cons, List.map_nil, List.length_cons, List.length_nil, List.replicate_succ, List.replicate_zero, List.cons_append, List.nil_append,
  List.getElem?_cons_zero, List.getElem?_cons_succ, List.set_cons_zero, List.set_cons_succ, Nat.reduceAdd, Nat.reduceSub, Nat.zero_add, Nat.sub_self, decide_eq_true_eq])

theorem okD_int (i : Int) : okD (.int i) := ⟨rfl, rfl⟩
theorem eqv_int (i j : Int) : PyData.eqv (.int i) (.int j) = decide (i = j) := by
  show (i == j) = _
  by_cases h : i = j <;> simp [h]

/-! ### the greatest common part -/
theorem gcd_step (a b : Int) : Int.gcd b (a.fmod b) = Int.gcd a b := by
  rw [Int.fmod_def, Int.gcd_sub_mul_left_right, Int.gcd_comm]
theorem natAbs_fmod_lt (a : Int) {b : Int} (h : b ≠ 0) : (a.fmod b).natAbs < b.natAbs := by
  rcases Int.lt_or_gt_of_ne h with hb | hb
  · have h1 : (-(a.fmod b)) = (-a).fmod (-b) := by
      rw [Int.fmod_def, Int.fmod_def, Int.neg_fdiv_neg]
      grind
    have h2 := Int.fmod_lt_of_pos (-a) (b := -b) (by omega)
    have h3 := Int.fmod_nonneg_of_pos (-a) (b := -b) (by omega)
    omega
  · have h2 := Int.fmod_lt_of_pos a hb
    have h3 := Int.fmod_nonneg_of_pos a hb
    omega
theorem common_ok {a b : Int} {Q : D → Prop} (h : Q (.int (Int.gcd a b : Nat))) : F_common [.int a, .int b] Q := by
  have key : ∀ (n : Nat) (a b : Int) (P : Po), b.natAbs < n → (∀ g : Int, g.natAbs = Int.gcd a b → P.nx [.va (.int g), .va (.int 0)]) →
      whileW (eT (eOp fNe (eVar 1) (eC (.int 0)))) (sPar 0 1 (aCons (eVar 1) (aCons (eOp fMod (eVar 0) (eVar 1)) aNil))) n [.va (.int a), .va (.int b)] P := by
    intro n
    induction n with
    | zero => intro a b P h; omega
    | succ n ih =>
      intro a b P hn hP
      unfold whileW
      kpt_turns
      refine ⟨okD_int _, okD_int _, ?_⟩
      rw [eqv_int]
      by_cases hb : b = 0
      · subst hb
        simp only [decide_true, Bool.not_true, Bool.false_eq_true, if_false]
        exact hP a (by simp)
      · simp only [hb, decide_false, Bool.not_false, if_true]
        refine ⟨fun z => hb z, ?_⟩
        exact ih b _ _ (by have := natAbs_fmod_lt a hb; omega) fun g hg => hP g (by rw [hg, gcd_step])
  unfold F_common
  kpt_turns
  refine ⟨b.natAbs + 1, key _ a b _ (by omega) fun g hg => ?_⟩
  kpt_turns
  have e : (if g < 0 then -g else g) = ((Int.gcd a b : Nat) : Int) := by
    rw [← hg]
    split <;> omega
  rw [e]
  exact h

/-! ### fractions -/
abbrev dr (q : Rat) : D := .tuple [.int q.num, .int (q.den : Nat)]
theorem okD_dr (q : Rat) : okD (dr q) := ⟨rfl, rfl⟩
theorem eqv_dr (p q : Rat) : PyData.eqv (dr p) (dr q) = decide (p = q) := by
  show ((p.num == q.num) && (((p.den : Int) == (q.den : Int)) && true)) = _
  by_cases h : p = q
  · subst h; simp
  · rw [decide_eq_false h]
    by_cases h1 : p.num = q.num
    · by_cases h2 : p.den = q.den
      · exact absurd (Rat.ext h1 h2) h
      · have : ((p.den : Int) == (q.den : Int)) = false := by
          rw [beq_eq_false_iff_ne]; omega
        rw [this]; simp
    · have : (p.num == q.num) = false := by rwa [beq_eq_false_iff_ne]
      rw [this]; simp
theorem isq (g : Int) : 0 ≤ g * g := by
  rcases Int.le_total 0 g with z | z
  · exact Int.mul_nonneg z z
  · exact Int.mul_nonneg_of_nonpos_of_nonpos z z
/-- the signed greatest part divides both; what is left is the fraction -/
theorem dr_of {n d g : Int} (hd : d ≠ 0) (hg : g.natAbs = Int.gcd n d) (hs : 0 < g * d) : PyData.tuple [.int (n.fdiv g), .int (d.fdiv g)] = dr (Rat.divInt n d) := by
  have h1 := Rat.num_divInt n d
  have h2 := Rat.den_divInt n d
  rw [if_neg hd] at h2
  rw [Int.gcd_comm] at h1 h2
  have hg0 : g ≠ 0 := fun z => by simp [z] at hs
  have gn : (g.natAbs : Int) ∣ n := by rw [hg]; exact Int.gcd_dvd_left ..
  have gd : (g.natAbs : Int) ∣ d := by rw [hg]; exact Int.gcd_dvd_right ..
  have gn' : g ∣ n := by rwa [Int.natAbs_dvd] at gn
  have gd' : g ∣ d := by rwa [Int.natAbs_dvd] at gd
  obtain ⟨x, hx⟩ := gn'
  obtain ⟨y, hy⟩ := gd'
  rw [← hg] at h1 h2
  have e1 : n.fdiv g = x := by rw [hx]; exact Int.mul_fdiv_cancel_left x hg0
  have e2 : d.fdiv g = y := by rw [hy]; exact Int.mul_fdiv_cancel_left y hg0
  have gpos : (0 : Int) < (g.natAbs : Int) := by omega
  rw [e1, e2]
  unfold dr
  rw [h1, h2]
  have hy0 : y ≠ 0 := fun z => hd (by rw [hy, z]; simp)
  have hyp : 0 < y := by
    rcases Int.lt_or_gt_of_ne hy0 with h | h
    · have : g * d ≤ 0 := by
        rw [hy, ← Int.mul_assoc]
        exact Int.mul_nonpos_of_nonneg_of_nonpos (isq g) (by omega)
      omega
    · exact h
  have e4 : d.natAbs / g.natAbs = y.natAbs := by
    rw [hy, Int.natAbs_mul]
    exact Nat.mul_div_cancel_left _ (by omega)
  have e3 : d.sign * n / (g.natAbs : Int) = x := by
    refine Int.ediv_eq_of_eq_mul_left (by omega) ?_
    rw [hx, hy, Int.sign_mul, Int.sign_eq_one_of_pos hyp, Int.mul_one, ← Int.mul_assoc, Int.sign_mul_self, Int.mul_comm]
  rw [e3, e4]
  have : ((y.natAbs : Nat) : Int) = y := by omega
  rw [this]
/-- few bits -/
def sm (k : Nat) (i : Int) : Prop := i.natAbs < 2 ^ k
def bz (k : Nat) (q : Rat) : Prop := sm k q.num ∧ q.den < 2 ^ k
theorem log2_sm {k : Nat} {i : Int} (h : sm k i) : i.natAbs.log2 ≤ k := by
  by_cases h0 : i.natAbs = 0
  · rw [h0]; simp
  · exact Nat.le_of_lt ((Nat.log2_lt h0).mpr h)
theorem sm_mono {k l : Nat} {i : Int} (h : sm k i) (hk : k ≤ l) : sm l i := Nat.lt_of_lt_of_le h (Nat.pow_le_pow_right (by decide) hk)
theorem sm_mul {k l : Nat} {i j : Int} (h : sm k i) (h' : sm l j) : sm (k + l) (i * j) := by
  unfold sm at *
  rw [Int.natAbs_mul, Nat.pow_add]
  exact Nat.mul_lt_mul_of_lt_of_lt h h'
theorem sm_add {k : Nat} {i j : Int} (h : sm k i) (h' : sm k j) : sm (k + 1) (i + j) := by
  unfold sm at *
  rw [Nat.pow_succ]
  have := Int.natAbs_add_le i j
  omega
theorem sm_neg {k : Nat} {i : Int} (h : sm k i) : sm k (-i) := by
  unfold sm at *
  rwa [Int.natAbs_neg]
theorem sm_sub {k : Nat} {i j : Int} (h : sm k i) (h' : sm k j) : sm (k + 1) (i - j) := by
  rw [Int.sub_eq_add_neg]; exact sm_add h (sm_neg h')
theorem cmul {k l : Nat} {i j : Int} (h : sm k i) (h' : sm l j) (hk : k + l < 1000000) : CMulW i j := by
  have := log2_sm h
  have := log2_sm h'
  unfold CMulW
  omega
theorem cdv {k : Nat} {i j : Int} (h : sm k j) (hj : j ≠ 0) (hk : k < 9000) : CDv i j := ⟨hj, by have := log2_sm h; omega⟩
theorem sm_den {k : Nat} {q : Rat} (h : bz k q) : sm k (q.den : Int) := by
  unfold sm; rw [Int.natAbs_natCast]; exact h.2
/-- what a fraction is written with bounds it -/
theorem bz_div {k : Nat} {n d : Int} (hd : d ≠ 0) (hn : sm k n) (hk : sm k d) : bz k (Rat.divInt n d) := by
  have h1 := Rat.num_divInt n d
  have h2 := Rat.den_divInt n d
  rw [if_neg hd] at h2
  refine ⟨?_, ?_⟩
  · unfold sm at *
    rw [h1]
    refine Nat.lt_of_le_of_lt ?_ hn
    rw [Int.natAbs_ediv_of_dvd (by
      have := Int.gcd_dvd_right (a := d) (b := n)
      exact Int.dvd_mul_of_dvd_right this)]
    refine Nat.le_trans (Nat.div_le_self _ _) ?_
    rw [Int.natAbs_mul, Int.natAbs_sign_of_ne_zero hd, Nat.one_mul]
    exact Nat.le_refl _
  · rw [h2]
    exact Nat.lt_of_le_of_lt (Nat.div_le_self _ _) hk
theorem fraction_ok {k : Nat} {n d : Int} {Q : D → Prop} (hd : d ≠ 0) (hk : sm k d) (h9 : k < 9000) (h : Q (dr (Rat.divInt n d))) : F_fraction [.int n, .int d] Q := by
  unfold F_fraction
  kpt_turns
  refine common_ok ?_
  have hg : (Int.gcd n d) ≠ 0 := fun z => hd (Int.gcd_eq_zero_iff.mp z).2
  have hgs : sm k (Int.gcd n d : Nat) := by
    unfold sm at *
    rw [Int.natAbs_natCast]
    exact Nat.lt_of_le_of_lt (Nat.le_of_dvd (by omega) (Int.gcd_dvd_natAbs_right ..)) hk
  by_cases hn : d < 0
  · simp only [hn, if_true, decide_true]
    refine ⟨cdv (sm_neg hgs) (by omega) h9, cdv (sm_neg hgs) (by omega) h9, by decide, ?_⟩
    rw [dr_of hd (by rw [Int.natAbs_neg, Int.natAbs_natCast]) (by have := Int.mul_pos_of_neg_of_neg (a := -((Int.gcd n d : Nat) : Int)) (b := d) (by omega) hn; exact this)]
    exact h
  · simp only [hn, if_false, decide_false, Bool.false_eq_true]
    refine ⟨cdv hgs (by omega) h9, cdv hgs (by omega) h9, by decide, ?_⟩
    rw [dr_of hd (by rw [Int.natAbs_natCast]) (Int.mul_pos (by omega) (by omega))]
    exact h


theorem bz_mono {k l : Nat} {q : Rat} (h : bz k q) (hk : k ≤ l) : bz l q := ⟨sm_mono h.1 hk, Nat.lt_of_lt_of_le h.2 (Nat.pow_le_pow_right (by decide) hk)⟩
theorem den_ne (q : Rat) : (q.den : Int) ≠ 0 := by
  have := q.den_nz
  omega
theorem num_ne {q : Rat} (h : q ≠ 0) : q.num ≠ 0 := fun z => h (Rat.num_eq_zero.mp z)
theorem add_div (p q : Rat) : Rat.divInt (p.num * q.den + q.num * p.den) (p.den * q.den) = p + q := by
  rw [Rat.add_def', ← Rat.divInt_ofNat, Int.natCast_mul]
theorem sub_div (p q : Rat) : Rat.divInt (p.num * q.den - q.num * p.den) (p.den * q.den) = p - q := by
  rw [Rat.sub_def', ← Rat.divInt_ofNat, Int.natCast_mul]
theorem mul_div (p q : Rat) : Rat.divInt (p.num * q.num) (p.den * q.den) = p * q := by
  rw [Rat.mul_def', ← Rat.divInt_ofNat, Int.natCast_mul]
theorem div_div (p q : Rat) : Rat.divInt (p.num * q.den) (p.den * q.num) = p / q := by
  rw [Rat.div_def, Rat.inv_def, ← Rat.divInt_mul_divInt, Rat.num_divInt_den]
theorem bz_add {k l : Nat} {p q : Rat} (h : bz k p) (h' : bz l q) : bz (k + l + 1) (p + q) := by
  rw [← add_div]
  refine bz_div (Int.mul_ne_zero (den_ne p) (den_ne q)) ?_ ?_
  · refine sm_add (sm_mul h.1 (sm_den h')) ?_
    rw [Nat.add_comm]; exact sm_mul h'.1 (sm_den h)
  · exact sm_mono (sm_mul (sm_den h) (sm_den h')) (by omega)
theorem bz_neg {k : Nat} {p : Rat} (h : bz k p) : bz k (-p) := ⟨sm_neg h.1, h.2⟩
theorem bz_sub {k l : Nat} {p q : Rat} (h : bz k p) (h' : bz l q) : bz (k + l + 1) (p - q) := by
  rw [Rat.sub_eq_add_neg]; exact bz_add h (bz_neg h')
theorem bz_mul {k l : Nat} {p q : Rat} (h : bz k p) (h' : bz l q) : bz (k + l) (p * q) := by
  rw [← mul_div]
  exact bz_div (Int.mul_ne_zero (den_ne p) (den_ne q)) (sm_mul h.1 h'.1) (sm_mul (sm_den h) (sm_den h'))
theorem bz_over {k l : Nat} {p q : Rat} (h : bz k p) (h' : bz l q) (hq : q ≠ 0) : bz (k + l) (p / q) := by
  rw [← div_div]
  exact bz_div (Int.mul_ne_zero (den_ne p) (num_ne hq)) (sm_mul h.1 (sm_den h')) (sm_mul (sm_den h) h'.1)

section
variable {k l : Nat} {p q : Rat} {Q : D → Prop}
theorem atI_0 (a b : D) : atI [a, b] 0 = some a := rfl
theorem atI_1 (a b : D) : atI [a, b] 1 = some b := rfl
theorem at3_0 (a b c : D) : atI [a, b, c] 0 = some a := rfl
theorem at3_1 (a b c : D) : atI [a, b, c] 1 = some b := rfl
theorem at3_2 (a b c : D) : atI [a, b, c] 2 = some c := rfl
local macro_rules | `(tactic| kpc_turns) => `(tactic| (kpt_turns; try simp only [atI_0, atI_1, at3_0, at3_1, at3_2]))
theorem sp_added (h : bz k p) (h' : bz l q) (hk : k + l < 8000) (hQ : Q (dr (p + q))) : F_added [dr p, dr q] Q := by
  unfold F_added
  kpc_turns
  refine ⟨cmul h.1 (sm_den h') (by omega), cmul h'.1 (sm_den h) (by omega), cmul (sm_den h) (sm_den h') (by omega), ?_⟩
  refine fraction_ok (Int.mul_ne_zero (den_ne p) (den_ne q)) (sm_mul (sm_den h) (sm_den h')) (by omega) ?_
  rw [add_div]; exact hQ
local macro_rules | `(tactic| dl_keeps) => `(tactic| (with_reducible apply sp_added; (focus pv_meta); (focus pv_meta); (focus pv_meta)))
theorem sp_minus (h : bz k p) (h' : bz l q) (hk : k + l < 8000) (hQ : Q (dr (p - q))) : F_minus [dr p, dr q] Q := by
  unfold F_minus
  kpc_turns
  refine ⟨cmul h.1 (sm_den h') (by omega), cmul h'.1 (sm_den h) (by omega), cmul (sm_den h) (sm_den h') (by omega), ?_⟩
  refine fraction_ok (Int.mul_ne_zero (den_ne p) (den_ne q)) (sm_mul (sm_den h) (sm_den h')) (by omega) ?_
  rw [sub_div]; exact hQ
local macro_rules | `(tactic| dl_keeps) => `(tactic| (with_reducible apply sp_minus; (focus pv_meta); (focus pv_meta); (focus pv_meta)))
theorem sp_times (h : bz k p) (h' : bz l q) (hk : k + l < 8000) (hQ : Q (dr (p * q))) : F_times [dr p, dr q] Q := by
  unfold F_times
  kpc_turns
  refine ⟨cmul h.1 h'.1 (by omega), cmul (sm_den h) (sm_den h') (by omega), ?_⟩
  refine fraction_ok (Int.mul_ne_zero (den_ne p) (den_ne q)) (sm_mul (sm_den h) (sm_den h')) (by omega) ?_
  rw [mul_div]; exact hQ
local macro_rules | `(tactic| dl_keeps) => `(tactic| (with_reducible apply sp_times; (focus pv_meta); (focus pv_meta); (focus pv_meta)))
theorem sp_over (h : bz k p) (h' : bz l q) (hq : q ≠ 0) (hk : k + l < 8000) (hQ : Q (dr (p / q))) : F_over [dr p, dr q] Q := by
  unfold F_over
  kpc_turns
  refine ⟨cmul h.1 (sm_den h') (by omega), cmul (sm_den h) h'.1 (by omega), ?_⟩
  refine fraction_ok (Int.mul_ne_zero (den_ne p) (num_ne hq)) (sm_mul (sm_den h) h'.1) (by omega) ?_
  rw [div_div]; exact hQ
local macro_rules | `(tactic| dl_keeps) => `(tactic| (with_reducible apply sp_over; (focus pv_meta); (focus pv_meta); (focus pv_meta); (focus pv_meta)))
theorem sp_turned (hQ : Q (dr (-p))) : F_turned [dr p] Q := by
  unfold F_turned
  kpc_turns
  exact ⟨by decide, hQ⟩
local macro_rules | `(tactic| dl_keeps) => `(tactic| (with_reducible apply sp_turned))
theorem dr_sq (p : Rat) : PyData.tuple [.int (p.num * p.num), .int ((p.den : Int) * (p.den : Int))] = dr (p * p) := by
  have e : p * p = p ^ 2 := by rw [Rat.pow_succ, Rat.pow_one]
  have h1 : (p * p).num = p.num * p.num := by rw [e, Rat.num_pow]; exact Int.pow_succ _ _ |>.trans (by rw [Int.pow_succ, Int.pow_zero, Int.one_mul])
  have h2 : (p * p).den = p.den * p.den := by rw [e, Rat.den_pow]; exact Nat.pow_succ .. |>.trans (by rw [Nat.pow_one])
  unfold dr
  rw [h1, h2, Int.natCast_mul]
theorem sp_square (h : bz k p) (hk : k < 8000) (hQ : Q (dr (p * p))) : F_square [dr p] Q := by
  unfold F_square
  kpc_turns
  refine ⟨cmul h.1 h.1 (by omega), cmul (sm_den h) (sm_den h) (by omega), by decide, ?_⟩
  rw [dr_sq]; exact hQ
local macro_rules | `(tactic| dl_keeps) => `(tactic| (with_reducible apply sp_square; (focus pv_meta); (focus pv_meta)))
theorem sm_2 : sm 2 2 := by unfold sm; decide
theorem bz_2 : bz 2 2 := ⟨by unfold sm; decide, by decide⟩
theorem sp_half (h : bz k p) (hk : k < 8000) (hQ : Q (dr (p / 2))) : F_half [dr p] Q := by
  unfold F_half
  kpc_turns
  refine ⟨cmul sm_2 (sm_den h) (by omega), ?_⟩
  refine fraction_ok (Int.mul_ne_zero (by decide) (den_ne p)) (sm_mul sm_2 (sm_den h)) (by omega) ?_
  have e := div_div p 2
  rw [show ((2 : Rat).num) = 2 from rfl, show ((2 : Rat).den : Int) = 1 from rfl, Int.mul_one, Int.mul_comm] at e
  rw [e]; exact hQ
local macro_rules | `(tactic| dl_keeps) => `(tactic| (with_reducible apply sp_half; (focus pv_meta); (focus pv_meta)))
theorem sp_sign (hQ : Q (.int p.num.sign)) : F_sign [dr p] Q := by
  unfold F_sign F_sign_of
  kpc_turns
  have e : ((if decide (0 < p.num) = true then 1 else 0) - (if decide (p.num < 0) = true then 1 else 0) : Int) = p.num.sign := by
    rcases Int.lt_trichotomy p.num 0 with h | h | h
    · rw [Int.sign_eq_neg_one_of_neg h, decide_eq_true h, decide_eq_false (by omega)]; rfl
    · rw [h]; rfl
    · rw [Int.sign_eq_one_of_pos h, decide_eq_true h, decide_eq_false (by omega)]; rfl
  simp only [decide_eq_true_eq] at e
  rw [e]; exact hQ
local macro_rules | `(tactic| dl_keeps) => `(tactic| (with_reducible apply sp_sign))
theorem sp__law_sgn (hQ : Q (.int p.num.sign)) : F__law_sgn [dr p] Q := by
  unfold F__law_sgn
  kpc_turns
  rcases Int.lt_trichotomy p.num 0 with h | h | h
  · rw [Int.sign_eq_neg_one_of_neg h] at hQ
    simp only [show ¬ 0 < p.num by omega, h, if_true, if_false]; exact hQ
  · rw [h] at hQ
    simp only [h, Int.lt_irrefl, if_false]; exact hQ
  · rw [Int.sign_eq_one_of_pos h] at hQ
    simp only [show ¬ p.num < 0 by omega, h, if_true, if_false]; exact hQ

local macro_rules | `(tactic| dl_keeps) => `(tactic| (with_reducible apply sp__law_sgn))
/-! ### the law's own fractions -/
theorem step_int (a b : Nat) : ((a : Nat) : Int) - ((a : Nat) : Int).fdiv (b : Nat) * ((b : Nat) : Int) = ((a % b : Nat) : Int) := by
  rw [← Int.ofNat_fdiv]
  have := Nat.div_add_mod a b
  have e : (a : Int) = ((a / b * b + a % b : Nat) : Int) := by rw [Nat.mul_comm, this]
  rw [Int.natCast_add, Int.natCast_mul] at e
  omega
theorem frac_loop : ∀ (ds : List D) (a b m k : Nat) (u v s : Sl) (P : Po), b ≤ a → a * b < 2 ^ m → b < 2 ^ k → k < 9000 → m < 100000 → m < ds.length → (∀ s', P.nx [u, v, .va (.int (Nat.gcd a b : Nat)), .va (.int 0), s']) →
    forW (mgName 4) (sSeq (sIf (eT (eOp fEq (eVar 3) (eC (.int 0)))) sBreak sNext) (sPar 2 3 (aCons (eVar 3) (aCons (eOp fSub (eVar 2) (eOp fMul (eOp fDiv (eVar 2) (eVar 3)) (eVar 3))) aNil)))) ds [u, v, .va (.int (a : Nat)), .va (.int (b : Nat)), s] P
  | [], a, b, m, k, u, v, s, P, _, _, _, _, _, h, _ => by simp at h
  | d :: ds, a, b, m, k, u, v, s, P, hba, hm, hb, hk, hm1, hl, hP => by
    unfold forW
    kpc_turns
    refine ⟨okD_int _, okD_int _, ?_⟩
    rw [eqv_int]
    by_cases h0 : b = 0
    · subst h0
      simp only [Int.natCast_zero, decide_true, if_true]
      simpa using hP (.va d)
    · have h0' : ¬ ((b : Nat) : Int) = 0 := by omega
      simp only [h0', decide_false, Bool.false_eq_true, if_false]
      have ha : a < 2 ^ m := Nat.lt_of_le_of_lt (Nat.le_mul_of_pos_right a (by omega)) hm
      refine ⟨⟨h0', ?_⟩, ?_, ?_⟩
      · exact Nat.lt_of_le_of_lt (log2_sm (k := k) (by unfold sm; rw [Int.natAbs_natCast]; exact hb)) hk
      · rw [← Int.ofNat_fdiv]
        exact cmul (k := m) (l := k) (by unfold sm; rw [Int.natAbs_natCast]; exact Nat.lt_of_le_of_lt (Nat.div_le_self _ _) ha) (by unfold sm; rw [Int.natAbs_natCast]; exact hb) (by omega)
      · rw [step_int]
        have hr : a % b < b := Nat.mod_lt _ (by omega)
        have h2 : 2 * (a % b) ≤ a := by
          have h3 := Nat.div_add_mod a b
          have h4 : 1 ≤ a / b := Nat.div_pos hba (by omega)
          have h5 : b * 1 ≤ b * (a / b) := Nat.mul_le_mul_left b h4
          omega
        have h6 : b * (a % b) * 2 ≤ a * b := by
          rw [Nat.mul_assoc, Nat.mul_comm (a % b) 2, Nat.mul_comm a b]
          exact Nat.mul_le_mul_left b h2
        cases m with
        | zero =>
          simp at hm
          omega
        | succ m =>
          refine frac_loop ds b (a % b) m k u v _ P (Nat.le_of_lt hr) (by rw [Nat.pow_succ] at hm; omega) (by omega) hk (by omega) (by simpa using hl) fun s' => ?_
          have e : Nat.gcd b (a % b) = Nat.gcd a b := by rw [Nat.gcd_comm b, ← Nat.gcd_rec, Nat.gcd_comm]
          rw [e]
          exact hP s'
theorem rngD_succ (n : Nat) : rngD 0 (n + 1) = .int 0 :: (List.range n).map fun i : Nat => PyData.int (0 + ((i + 1 : Nat) : Int)) := by
  unfold rngD
  rw [List.range_succ_eq_map, List.map_cons, List.map_map]
  rfl
theorem natAbs_if (n : Int) : (if n < 0 then -n else n) = ((n.natAbs : Nat) : Int) := by split <;> omega
theorem sp__law_frac {n d : Int} (hd : d ≠ 0) (hn : sm k n) (hk : sm k d) (h9 : k < 8900) (hQ : Q (dr (Rat.divInt n d))) : F__law_frac [.int n, .int d] Q := by
  unfold F__law_frac
  placed_of0
  rw [natAbs_if, natAbs_if, show (20000 : Int).toNat = 19999 + 1 from rfl, rngD_succ]
  placed_of0
  rw [eqv_int]
  have h0 : ¬ ((d.natAbs : Nat) : Int) = 0 := by omega
  have k1 : n.natAbs < 2 ^ k := hn
  have k2 : d.natAbs < 2 ^ k := hk
  rw [decide_eq_false h0]
  placed_of0
  · exact ⟨h0, Nat.lt_of_le_of_lt (log2_sm (k := k) (by unfold sm; rw [Int.natAbs_natCast]; exact k2)) (by omega)⟩
  placed_of0
  · rw [← Int.ofNat_fdiv]
    exact cmul (k := k) (l := k) (by unfold sm; rw [Int.natAbs_natCast]; exact Nat.lt_of_le_of_lt (Nat.div_le_self _ _) k1) (by unfold sm; rw [Int.natAbs_natCast]; exact k2) (by omega)
  placed_of0
  rw [step_int]
  have hr : n.natAbs % d.natAbs < d.natAbs := Nat.mod_lt _ (by omega)
  refine frac_loop _ d.natAbs (n.natAbs % d.natAbs) (k + k) k _ _ _ _ (Nat.le_of_lt hr) ?_ (by omega) (by omega) (by omega) (by rw [List.length_map, List.length_range]; omega) fun s' => ?_
  · rw [Nat.pow_add]
    exact Nat.mul_lt_mul_of_lt_of_lt k2 (by omega)
  have e : Nat.gcd d.natAbs (n.natAbs % d.natAbs) = Int.gcd n d := by
    rw [Nat.gcd_comm d.natAbs, ← Nat.gcd_rec, Nat.gcd_comm]
    rfl
  rw [e]
  have hg : (Int.gcd n d) ≠ 0 := fun z => hd (Int.gcd_eq_zero_iff.mp z).2
  have hgs : sm k (Int.gcd n d : Nat) := by
    unfold sm at *
    rw [Int.natAbs_natCast]
    exact Nat.lt_of_le_of_lt (Nat.le_of_dvd (by omega) (Int.gcd_dvd_natAbs_right ..)) hk
  placed_of0
  by_cases hp : 0 < d
  · rw [decide_eq_true hp]
    placed_of0
    · exact cdv hgs (by omega) (by omega)
    placed_of0
    · exact cdv hgs (by omega) (by omega)
    placed_of0
    rw [dr_of hd (by rw [Int.natAbs_natCast]) (Int.mul_pos (by omega) (by omega))]
    exact hQ
  · rw [decide_eq_false hp]
    placed_of0
    rw [Int.zero_sub]
    · exact cdv (sm_neg hgs) (by omega) (by omega)
    placed_of0
    rw [Int.zero_sub]
    · exact cdv (sm_neg hgs) (by omega) (by omega)
    placed_of0
    rw [Int.zero_sub]
    rw [dr_of hd (by rw [Int.natAbs_neg, Int.natAbs_natCast]) (Int.mul_pos_of_neg_of_neg (by omega) (by omega))]
    exact hQ
local macro_rules | `(tactic| dl_keeps) => `(tactic| (with_reducible apply sp__law_frac; (focus pv_meta); (focus pv_meta); (focus pv_meta); (focus pv_meta)))
theorem sp__law_add (h : bz k p) (h' : bz l q) (hk : k + l < 8000) (hQ : Q (dr (p + q))) : F__law_add [dr p, dr q] Q := by
  unfold F__law_add
  kpc_turns
  refine ⟨cmul h.1 (sm_den h') (by omega), cmul h'.1 (sm_den h) (by omega), cmul (sm_den h) (sm_den h') (by omega), ?_⟩
  refine sp__law_frac (k := k + l + 1) (Int.mul_ne_zero (den_ne p) (den_ne q)) (sm_add (sm_mul h.1 (sm_den h')) (Nat.add_comm l k ▸ sm_mul h'.1 (sm_den h))) (sm_mono (sm_mul (sm_den h) (sm_den h')) (by omega)) (by omega) ?_
  rw [add_div]; exact hQ
local macro_rules | `(tactic| dl_keeps) => `(tactic| (with_reducible apply sp__law_add; (focus pv_meta); (focus pv_meta); (focus pv_meta)))
theorem sp__law_less (h : bz k p) (h' : bz l q) (hk : k + l < 8000) (hQ : Q (dr (p - q))) : F__law_less [dr p, dr q] Q := by
  unfold F__law_less
  kpc_turns
  refine ⟨cmul h.1 (sm_den h') (by omega), cmul h'.1 (sm_den h) (by omega), cmul (sm_den h) (sm_den h') (by omega), ?_⟩
  refine sp__law_frac (k := k + l + 1) (Int.mul_ne_zero (den_ne p) (den_ne q)) (sm_sub (sm_mul h.1 (sm_den h')) (Nat.add_comm l k ▸ sm_mul h'.1 (sm_den h))) (sm_mono (sm_mul (sm_den h) (sm_den h')) (by omega)) (by omega) ?_
  rw [sub_div]; exact hQ
local macro_rules | `(tactic| dl_keeps) => `(tactic| (with_reducible apply sp__law_less; (focus pv_meta); (focus pv_meta); (focus pv_meta)))
theorem sp__law_mul (h : bz k p) (h' : bz l q) (hk : k + l < 8000) (hQ : Q (dr (p * q))) : F__law_mul [dr p, dr q] Q := by
  unfold F__law_mul
  kpc_turns
  refine ⟨cmul h.1 h'.1 (by omega), cmul (sm_den h) (sm_den h') (by omega), ?_⟩
  refine sp__law_frac (k := k + l) (Int.mul_ne_zero (den_ne p) (den_ne q)) (sm_mul h.1 h'.1) (sm_mul (sm_den h) (sm_den h')) (by omega) ?_
  rw [mul_div]; exact hQ
local macro_rules | `(tactic| dl_keeps) => `(tactic| (with_reducible apply sp__law_mul; (focus pv_meta); (focus pv_meta); (focus pv_meta)))
theorem sp__law_over (h : bz k p) (h' : bz l q) (hq : q ≠ 0) (hk : k + l < 8000) (hQ : Q (dr (p / q))) : F__law_over [dr p, dr q] Q := by
  unfold F__law_over
  kpc_turns
  refine ⟨cmul h.1 (sm_den h') (by omega), cmul (sm_den h) h'.1 (by omega), ?_⟩
  refine sp__law_frac (k := k + l) (Int.mul_ne_zero (den_ne p) (num_ne hq)) (sm_mul h.1 (sm_den h')) (sm_mul (sm_den h) h'.1) (by omega) ?_
  rw [div_div]; exact hQ
local macro_rules | `(tactic| dl_keeps) => `(tactic| (with_reducible apply sp__law_over; (focus pv_meta); (focus pv_meta); (focus pv_meta); (focus pv_meta)))
end
local macro_rules | `(tactic| kpc_turns) => `(tactic| (kpt_turns; try simp only [atI_0, atI_1, at3_0, at3_1, at3_2]))
local macro_rules | `(tactic| dl_keeps) => `(tactic| (with_reducible apply sp_added; (focus pv_meta); (focus pv_meta); (focus pv_meta)))
local macro_rules | `(tactic| dl_keeps) => `(tactic| (with_reducible apply sp_minus; (focus pv_meta); (focus pv_meta); (focus pv_meta)))
local macro_rules | `(tactic| dl_keeps) => `(tactic| (with_reducible apply sp_times; (focus pv_meta); (focus pv_meta); (focus pv_meta)))
local macro_rules | `(tactic| dl_keeps) => `(tactic| (with_reducible apply sp_over; (focus pv_meta); (focus pv_meta); (focus pv_meta); (focus pv_meta)))
local macro_rules | `(tactic| dl_keeps) => `(tactic| (with_reducible apply sp_turned))
local macro_rules | `(tactic| dl_keeps) => `(tactic| (with_reducible apply sp_square; (focus pv_meta); (focus pv_meta)))
local macro_rules | `(tactic| dl_keeps) => `(tactic| (with_reducible apply sp_half; (focus pv_meta); (focus pv_meta)))
local macro_rules | `(tactic| dl_keeps) => `(tactic| (with_reducible apply sp_sign))
local macro_rules | `(tactic| dl_keeps) => `(tactic| (with_reducible apply sp__law_sgn))
local macro_rules | `(tactic| dl_keeps) => `(tactic| (with_reducible apply sp__law_frac; (focus pv_meta); (focus pv_meta); (focus pv_meta); (focus pv_meta)))
local macro_rules | `(tactic| dl_keeps) => `(tactic| (with_reducible apply sp__law_add; (focus pv_meta); (focus pv_meta); (focus pv_meta)))
local macro_rules | `(tactic| dl_keeps) => `(tactic| (with_reducible apply sp__law_less; (focus pv_meta); (focus pv_meta); (focus pv_meta)))
local macro_rules | `(tactic| dl_keeps) => `(tactic| (with_reducible apply sp__law_mul; (focus pv_meta); (focus pv_meta); (focus pv_meta)))
local macro_rules | `(tactic| dl_keeps) => `(tactic| (with_reducible apply sp__law_over; (focus pv_meta); (focus pv_meta); (focus pv_meta); (focus pv_meta)))


/-! ### sizes by themselves -/
theorem bz_0 : bz 1 0 := ⟨by unfold sm; decide, by decide⟩
theorem bz_1 : bz 1 1 := ⟨by unfold sm; decide, by decide⟩
local macro_rules | `(tactic| dl_puts) => `(tactic| first
  | with_reducible assumption
  | with_reducible exact bz_0
  | with_reducible exact bz_1
  | with_reducible exact bz_2
  | ((with_reducible apply bz_add) <;> dl_puts)
  | ((with_reducible apply bz_sub) <;> dl_puts)
  | ((with_reducible apply bz_mul) <;> dl_puts)
  | ((with_reducible apply bz_neg) <;> dl_puts))
local macro_rules | `(tactic| kpc_g) => `(tactic| with_reducible assumption)
local macro_rules | `(tactic| pv_meta) => `(tactic| first | omega | dl_puts | kpc_g | assumption)
local macro_rules | `(tactic| placed_of1) => `(tactic| repeat (first | tb_rel | tb_start | dl_keeps))
theorem cN : c_NOTHING = dr 0 := rfl
theorem lit01 : PyData.tuple [.int 0, .int 1] = dr 0 := rfl
theorem lit11 : PyData.tuple [.int 1, .int 1] = dr 1 := rfl
theorem lit21 : PyData.tuple [.int 2, .int 1] = dr 2 := rfl
abbrev rt (a b c : Rat) : D := .tuple [dr a, dr b, dr c]
section
variable {k l m ka kb kc kd ke kf : Nat} {a b c d e f p q : Rat} {Q : D → Prop}
theorem sp_plain (h : Q (rt a 0 0)) : F_plain [dr a] Q := by
  unfold F_plain
  placed_of0
  exact h
local macro_rules | `(tactic| dl_keeps) => `(tactic| (with_reducible apply sp_plain))
theorem sg1_sg (s t : Int) : sgn p = p.num.sign := rfl
theorem num_c (hc : 0 ≤ c) : (0 < c.num) ↔ c ≠ 0 := by
  have h1 : 0 ≤ c.num := Rat.num_nonneg.mpr hc
  have h2 := Rat.num_eq_zero (q := c)
  constructor
  · intro z y
    rw [y] at z
    exact absurd z (by decide)
  · intro z
    have : c.num ≠ 0 := fun y => z (h2.mp y)
    omega
/-! sizes of ints -/
theorem sm_sgn (i : Int) : sm 1 i.sign := by
  unfold sm
  rcases Int.lt_trichotomy i 0 with h | h | h
  · rw [Int.sign_eq_neg_one_of_neg h]; decide
  · rw [h]; decide
  · rw [Int.sign_eq_one_of_pos h]; decide
theorem sg1_def (s t : Int) (hs : sgn a = s) (ht : (if c = 0 then 0 else sgn b) = t) : sg1 a b c = if s = t ∨ t = 0 then s else if s = 0 then t else s * sgn (a * a - b * b * c) := by
  unfold sg1
  rw [hs, ht]
theorem sp_sign_of_root (ha : bz ka a) (hb : bz kb b) (hc : bz kc c) (hk : 2 * ka + 2 * kb + kc < 7900) (h : Q (.int (sg1 a b c))) : F_sign_of_root [rt a b c] Q := by
  unfold F_sign_of_root
  placed_of0
  dl_keeps
  placed_of0
  rw [cN, eqv_dr]
  rw [show a.num.sign = sgn a from rfl]
  have hss : sm 1 (sgn a) := sm_sgn _
  by_cases hc0 : c = 0
  · have e := sg1_def (a := a) (b := b) (c := c) _ 0 rfl (by rw [if_pos hc0])
    rw [if_pos (.inr rfl)] at e
    rw [decide_eq_true hc0]
    placed_of0
    rw [eqv_int]
    by_cases h1 : sgn a = 0
    · rw [decide_eq_true h1]
      placed_of0
      rw [← e]; exact h
    · rw [decide_eq_false h1]
      placed_of0
      rw [← e]; exact h
  have e := sg1_def (a := a) (b := b) (c := c) _ _ rfl (by rw [if_neg hc0])
  rw [decide_eq_false hc0]
  placed_of0
  dl_keeps
  placed_of0
  rw [show b.num.sign = sgn b from rfl]
  generalize sgn b = t at *
  generalize sgn a = s at *
  rw [eqv_int]
  by_cases h1 : s = t
  · rw [decide_eq_true h1]
    placed_of0
    rw [if_pos (.inl h1)] at e
    rw [← e]; exact h
  rw [decide_eq_false h1]
  placed_of0
  rw [eqv_int]
  by_cases h2 : t = 0
  · rw [decide_eq_true h2]
    placed_of0
    rw [if_pos (.inr h2)] at e
    rw [← e]; exact h
  rw [decide_eq_false h2]
  rw [if_neg (by omega)] at e
  placed_of0
  rw [eqv_int]
  by_cases h3 : s = 0
  · rw [decide_eq_true h3]
    placed_of0
    rw [if_pos h3] at e
    rw [← e]; exact h
  rw [decide_eq_false h3]
  rw [if_neg h3] at e
  placed_of0
  dl_keeps
  placed_of0
  dl_keeps
  placed_of0
  dl_keeps
  placed_of0
  dl_keeps
  placed_of0
  dl_keeps
  placed_of0
  rw [eqv_int]
  rw [show (a * a - b * b * c).num.sign = sgn (a * a - b * b * c) from rfl]
  by_cases h4 : sgn (a * a - b * b * c) = 0
  · rw [h4, Int.mul_zero] at e
    rw [h4, decide_eq_true rfl]
    placed_of0
    rw [← e]; exact h
  · rw [decide_eq_false h4]
    placed_of0
    · exact cmul hss (sm_sgn _) (by decide)
    placed_of0
    rw [← e]; exact h
local macro_rules | `(tactic| dl_keeps) => `(tactic| (with_reducible apply sp_sign_of_root; (focus pv_meta); (focus pv_meta); (focus pv_meta); (focus pv_meta)))
end
local macro_rules | `(tactic| dl_keeps) => `(tactic| (with_reducible apply sp_plain))
local macro_rules | `(tactic| dl_keeps) => `(tactic| (with_reducible apply sp_sign_of_root; (focus pv_meta); (focus pv_meta); (focus pv_meta); (focus pv_meta)))

section
variable {k l m ka kb kc kd ke kf : Nat} {a b c d e f p q : Rat} {Q : D → Prop}
theorem sp_sum2 (hp : bz k p) (hq : bz l q) (hk : k + l < 7900) (h : Q (dr (p + q))) : F_sum_of [.list [dr p, dr q]] Q := by
  unfold F_sum_of
  placed_of1
  rw [cN]
  placed_of1
  rw [Rat.zero_add]
  exact h
theorem sp_sum3 (hp : bz k p) (hq : bz l q) (hr : bz m a) (hk : k + l + m < 7900) (h : Q (dr (p + q + a))) : F_sum_of [.list [dr p, dr q, dr a]] Q := by
  unfold F_sum_of
  placed_of1
  rw [cN]
  placed_of1
  rw [Rat.zero_add]
  exact h
theorem sp_sum0 (h : Q (dr 0)) : F_sum_of [.list []] Q := by
  unfold F_sum_of
  placed_of1
  rw [cN]
  exact h
theorem sg2_0 (h : d = 0 ∨ e = 0) : sg2 a b c d e = sg1 a b c := by unfold sg2; rw [if_pos h]
theorem sg2_1 (h : ¬ (d = 0 ∨ e = 0)) : sg2 a b c d e = if sg1 a b c = 0 ∨ sg1 a b c = sgn d then sgn d else sg1 a b c * sg1 (a * a + b * b * c - d * d * e) (2 * (a * b)) c := by unfold sg2; rw [if_neg h]
theorem sm_sg1 : sm 2 (sg1 a b c) := by
  unfold sg1 sgn
  have h1 : sm 2 a.num.sign := sm_mono (sm_sgn _) (by decide)
  have h2 : sm 2 b.num.sign := sm_mono (sm_sgn _) (by decide)
  have h3 : sm 2 (a.num.sign * (a * a - b * b * c).num.sign) := sm_mul (sm_sgn _) (sm_sgn _)
  have h4 : sm 2 0 := by unfold sm; decide
  by_cases z : c = 0
  · simp only [z, if_true, or_true]
    exact h1
  simp only [z, if_false]
  split
  · exact h1
  split
  all_goals first | exact h1 | exact h2 | exact h3 | exact h4
theorem sp_sign_of_two (ha : bz ka a) (hb : bz kb b) (hc : bz kc c) (hd : bz kd d) (he : bz ke e) (hk : 6 * ka + 6 * kb + 3 * kc + 4 * kd + 2 * ke < 7800) (h : Q (.int (sg2 a b c d e))) : F_sign_of_two [dr a, dr b, dr c, dr d, dr e] Q := by
  unfold F_sign_of_two
  placed_of1
  rw [cN, eqv_dr]
  by_cases hd0 : d = 0
  · rw [decide_eq_true hd0]
    placed_of1
    rw [sg2_0 (.inl hd0)] at h; exact h
  rw [decide_eq_false hd0]
  placed_of1
  rw [eqv_dr]
  by_cases he0 : e = 0
  · rw [decide_eq_true he0]
    placed_of1
    rw [sg2_0 (.inr he0)] at h; exact h
  rw [sg2_1 (by simp [hd0, he0])] at h
  rw [decide_eq_false he0]
  placed_of1
  rw [eqv_int]
  rw [show d.num.sign = sgn d from rfl]
  by_cases h1 : sg1 a b c = 0
  · rw [decide_eq_true h1]
    placed_of1
    rw [if_pos (.inl h1)] at h; exact h
  rw [decide_eq_false h1]
  placed_of1
  rw [eqv_int]
  by_cases h2 : sg1 a b c = sgn d
  · rw [decide_eq_true h2]
    placed_of1
    rw [if_pos (.inr h2)] at h; exact h
  rw [decide_eq_false h2]
  rw [if_neg (by simp [h1, h2])] at h
  placed_of1
  refine sp_sum2 (by dl_puts) (by dl_puts) (by omega) ?_
  placed_of1
  rw [lit21]
  placed_of1
  · exact cmul (sm_sg1 (a := a) (b := b) (c := c)) (sm_sg1) (by decide)
  exact h
local macro_rules | `(tactic| dl_keeps) => `(tactic| (with_reducible apply sp_sign_of_two; (focus pv_meta); (focus pv_meta); (focus pv_meta); (focus pv_meta); (focus pv_meta); (focus pv_meta)))
end
local macro_rules | `(tactic| dl_keeps) => `(tactic| (with_reducible apply sp_sign_of_two; (focus pv_meta); (focus pv_meta); (focus pv_meta); (focus pv_meta); (focus pv_meta); (focus pv_meta)))

section
variable {k l m ka kb kc kd ke kf : Nat} {a b c d e f p q : Rat} {Q : D → Prop}
def cmp (a b c d e f : Rat) : Int := sg2 (a - d) b c (-e) f
theorem sp_compare (ha : bz ka a) (hb : bz kb b) (hc : bz kc c) (hd : bz kd d) (he : bz ke e) (hf : bz kf f) (hk : 6 * ka + 6 * kd + 6 * kb + 3 * kc + 4 * ke + 2 * kf < 7700) (h : Q (.int (cmp a b c d e f))) : F_compare [rt a b c, rt d e f] Q := by
  unfold F_compare
  placed_of1
  exact h
local macro_rules | `(tactic| dl_keeps) => `(tactic| (with_reducible apply sp_compare; (focus pv_meta); (focus pv_meta); (focus pv_meta); (focus pv_meta); (focus pv_meta); (focus pv_meta); (focus pv_meta)))
theorem sg1_le (hc : 0 ≤ c) (h : (if c = 0 then 0 else sgn b) = 0 ∨ sgn a = (if c = 0 then 0 else sgn b)) : sg1 a b c = sgn a := by
  rw [sg1_def _ _ rfl rfl, if_pos (by rcases h with h | h; exact .inr h; exact .inl h)]
theorem sp__law_sign (h0 : 0 ≤ c) (ha : bz ka a) (hb : bz kb b) (hc : bz kc c) (hk : 2 * ka + 2 * kb + kc < 7900) (h : Q (.int (sg1 a b c))) : F__law_sign [rt a b c] Q := by
  unfold F__law_sign
  placed_of1
  rw [show a.num.sign = sgn a from rfl]
  have hss : sm 1 (sgn a) := sm_sgn _
  by_cases hc0 : c = 0
  · have e := sg1_def (a := a) (b := b) (c := c) _ 0 rfl (by rw [if_pos hc0])
    rw [if_pos (.inr rfl)] at e
    rw [decide_eq_false (by rw [num_c h0]; exact fun z => z hc0)]
    placed_of1
    rw [eqv_int]
    by_cases h1 : sgn a = 0
    · rw [decide_eq_true h1]
      placed_of1
      rw [← e]; exact h
    · rw [decide_eq_false h1]
      placed_of1
      rw [← e]; exact h
  have e := sg1_def (a := a) (b := b) (c := c) _ _ rfl (by rw [if_neg hc0])
  rw [decide_eq_true (by rw [num_c h0]; exact hc0)]
  placed_of1
  rw [show b.num.sign = sgn b from rfl]
  generalize sgn b = t at *
  generalize sgn a = s at *
  rw [eqv_int]
  by_cases h1 : s = t
  · rw [decide_eq_true h1]
    placed_of1
    rw [if_pos (.inl h1)] at e
    rw [← e]; exact h
  rw [decide_eq_false h1]
  placed_of1
  rw [eqv_int]
  by_cases h2 : t = 0
  · rw [decide_eq_true h2]
    placed_of1
    rw [if_pos (.inr h2)] at e
    rw [← e]; exact h
  rw [decide_eq_false h2]
  rw [if_neg (by omega)] at e
  placed_of1
  rw [eqv_int]
  by_cases h3 : s = 0
  · rw [decide_eq_true h3]
    placed_of1
    rw [if_pos h3] at e
    rw [← e]; exact h
  rw [decide_eq_false h3]
  rw [if_neg h3] at e
  placed_of1
  · exact cmul hss (sm_sgn _) (by decide)
  rw [e] at h; exact h
local macro_rules | `(tactic| dl_keeps) => `(tactic| (with_reducible apply sp__law_sign; (focus pv_meta); (focus pv_meta); (focus pv_meta); (focus pv_meta); (focus pv_meta)))
theorem sp__law_compare (h0 : 0 ≤ c) (h1 : 0 ≤ f) (ha : bz ka a) (hb : bz kb b) (hc : bz kc c) (hd : bz kd d) (he : bz ke e) (hf : bz kf f) (hk : 6 * ka + 6 * kd + 6 * kb + 3 * kc + 4 * ke + 2 * kf < 7700) (h : Q (.int (cmp a b c d e f))) : F__law_compare [rt a b c, rt d e f] Q := by
  unfold F__law_compare
  placed_of1
  unfold cmp at h
  by_cases hf0 : f = 0
  · rw [decide_eq_false (by rw [num_c h1]; exact fun z => z hf0)]
    placed_of1
    rw [sg2_0 (.inr hf0)] at h; exact h
  rw [decide_eq_true (by rw [num_c h1]; exact hf0)]
  placed_of1
  rw [show e.num.sign = sgn e from rfl, Int.zero_sub, ← sgn_neg', eqv_int]
  by_cases h2 : sgn (-e) = 0
  · rw [decide_eq_true h2]
    placed_of1
    rw [sg2_0 (.inl (Rat.num_eq_zero.mp (Int.sign_eq_zero_iff_zero.mp h2)))] at h; exact h
  rw [sg2_1 (by rintro (z | z); exact h2 (by rw [z]; rfl); exact hf0 z)] at h
  rw [decide_eq_false h2]
  placed_of1
  rw [eqv_int]
  by_cases h3 : sg1 (a - d) b c = sgn (-e)
  · rw [decide_eq_true h3]
    placed_of1
    rw [if_pos (.inr h3), ← h3] at h; exact h
  rw [decide_eq_false h3]
  placed_of1
  rw [eqv_int]
  by_cases h4 : sg1 (a - d) b c = 0
  · rw [decide_eq_true h4]
    placed_of1
    rw [if_pos (.inl h4)] at h; exact h
  rw [decide_eq_false h4]
  rw [if_neg (by simp [h3, h4])] at h
  placed_of1
  rw [lit21]
  placed_of1
  · exact cmul (sm_sg1 (a := a - d) (b := b) (c := c)) (sm_sg1) (by decide)
  rw [show -e * -e = e * e by grind] at h
  exact h
local macro_rules | `(tactic| dl_keeps) => `(tactic| (with_reducible apply sp__law_compare; (focus pv_meta); (focus pv_meta); (focus pv_meta); (focus pv_meta); (focus pv_meta); (focus pv_meta); (focus pv_meta); (focus pv_meta); (focus pv_meta)))
end
local macro_rules | `(tactic| dl_keeps) => `(tactic| (with_reducible apply sp_compare; (focus pv_meta); (focus pv_meta); (focus pv_meta); (focus pv_meta); (focus pv_meta); (focus pv_meta); (focus pv_meta)))
local macro_rules | `(tactic| dl_keeps) => `(tactic| (with_reducible apply sp__law_sign; (focus pv_meta); (focus pv_meta); (focus pv_meta); (focus pv_meta); (focus pv_meta)))
local macro_rules | `(tactic| dl_keeps) => `(tactic| (with_reducible apply sp__law_compare; (focus pv_meta); (focus pv_meta); (focus pv_meta); (focus pv_meta); (focus pv_meta); (focus pv_meta); (focus pv_meta); (focus pv_meta); (focus pv_meta)))

section
variable {k l m ka kb kc kd ke kf : Nat} {a b c d e f p q C : Rat} {Q : D → Prop}
/-! ### whole roots -/
theorem wroot_loop : ∀ (n : Nat) (lo hi num : Int) (s : Sl) (P : Po) (k : Nat), 0 ≤ lo → lo < hi → (hi - lo).toNat ≤ n → lo * lo ≤ num → num < hi * hi → sm k hi → k < 4000 → 
    (∀ lo' s', 0 ≤ lo' → lo' * lo' ≤ num → num < (lo' + 1) * (lo' + 1) → sm k lo' → P.nx [.va (.int num), .va (.int lo'), .va (.int (lo' + 1)), s']) →
    whileW (eT (eOp fGt (eOp fSub (eVar 2) (eVar 1)) (eC (.int 1)))) (sSeq (sAsg (eOp fDiv (eOp fAdd (eVar 1) (eVar 2)) (eC (.int 2))) (mgName 3)) (sIf (eT (eOp fLe (eOp fMul (eVar 3) (eVar 3)) (eVar 0))) (sAsg (eVar 3) (mgName 1)) (sAsg (eVar 3) (mgName 2)))) n [.va (.int num), .va (.int lo), .va (.int hi), s] P
  | 0, lo, hi, num, s, P, k, h0, h1, h2, _, _, _, _, _ => by omega
  | n + 1, lo, hi, num, s, P, k, h0, h1, h2, h3, h4, hs, hk, hP => by
    unfold whileW
    obtain ⟨nx, rt, bk, ct⟩ := P
    have hl : sm k lo := by unfold sm at *; omega
    placed_of0
    by_cases hd : 1 < hi - lo
    · rw [decide_eq_true hd]
      placed_of0
      · exact cdv sm_2 (by decide) (by decide)
      have hm : sm k ((lo + hi).fdiv 2) := by
        unfold sm at *
        rw [Int.fdiv_eq_ediv_of_nonneg _ (by decide)]
        omega
      have e : (lo + hi).fdiv 2 = (lo + hi) / 2 := Int.fdiv_eq_ediv_of_nonneg _ (by decide)
      rw [e] at hm ⊢
      placed_of0
      · exact cmul hm hm (by omega)
      placed_of0
      by_cases hc : (lo + hi) / 2 * ((lo + hi) / 2) ≤ num
      · rw [decide_eq_true hc]
        placed_of0
        exact wroot_loop n _ hi num _ _ k (by omega) (by omega) (by omega) hc h4 hs hk hP
      · rw [decide_eq_false hc]
        placed_of0
        exact wroot_loop n lo _ num _ _ k h0 (by omega) (by omega) h3 (by omega) hm hk hP
    · rw [decide_eq_false hd]
      placed_of0
      have e : hi = lo + 1 := by omega
      subst e
      exact hP lo s h0 h3 h4 hl
theorem sp_whole_root {n : Int} (hn : 0 ≤ n) (hs : sm k n) (hk : k < 3900) (h : ∀ r : Int, 0 ≤ r → r * r ≤ n → n < (r + 1) * (r + 1) → Q (if r * r = n then .int r else .none)) : F_whole_root [.int n] Q := by
  unfold F_whole_root
  placed_of0
  have h1 : n + 1 ≤ (n + 1) * (n + 1) := by have := Int.mul_le_mul_of_nonneg_left (a := 1) (b := n + 1) (c := n + 1) (by omega) (by omega); omega
  refine ⟨(n + 1).toNat, wroot_loop _ 0 (n + 1) n _ _ (k + 1 + 1) (by omega) (by omega) (by omega) (by omega) (by omega) (sm_add (sm_mono hs (by omega)) (by unfold sm; have := Nat.one_le_two_pow (n := k); rw [Nat.pow_succ]; simp; omega)) (by omega) fun r s' r0 r1 r2 r3 => ?_⟩
  placed_of0
  · exact cmul r3 r3 (by omega)
  placed_of0
  have := h r r0 r1 r2
  rw [eqv_int]
  by_cases e : r * r = n
  · rw [decide_eq_true e]
    placed_of0
    rw [if_pos e] at this; exact this
  · rw [decide_eq_false e]
    placed_of0
    rw [if_neg e] at this; exact this
local macro_rules | `(tactic| dl_keeps) => `(tactic| (with_reducible apply sp_whole_root; (focus pv_meta); (focus pv_meta); (focus pv_meta)))
/-- above nothing, and no square of a fraction -/
def Nsq (c : Rat) : Prop := 0 < c ∧ ∀ r : Rat, r * r ≠ c
/-- the third part -/
def trd (b C : Rat) : Rat := if b = 0 then 0 else C
abbrev nrm (a b C : Rat) : D := rt a b (trd b C)
theorem nrm_0 (a C : Rat) : nrm a 0 C = rt a 0 0 := rfl
theorem nrm_1 (h : b ≠ 0) : nrm a b C = rt a b C := by unfold nrm trd; rw [if_neg h]
theorem rat_eq (c : Rat) : (c.num : Rat) = c * ((c.den : Nat) : Rat) := by
  have h5 := Rat.num_divInt_den c
  rw [Rat.divInt_eq_div] at h5
  have h6 : ((c.den : Int) : Rat) ≠ 0 := fun z => c.den_nz (by rw [Rat.intCast_eq_zero_iff] at z; omega)
  have h7 := Rat.div_mul_cancel (a := (c.num : Rat)) h6
  rw [h5] at h7
  exact h7.symm
theorem nsq_no {u l : Int} (hc : Nsq c) (h1 : u * u = c.num) (h2 : l * l = (c.den : Nat)) : False := by
  refine hc.2 ((u : Rat) / (l : Rat)) ?_
  have hl : (l : Rat) ≠ 0 := fun z => by
    rw [Rat.intCast_eq_zero_iff] at z
    rw [z] at h2
    have := c.den_nz
    omega
  have e1 : (u : Rat) * (u : Rat) = c * ((l : Rat) * (l : Rat)) := by
    rw [← Rat.intCast_mul, ← Rat.intCast_mul, h1, h2, rat_eq c]
    rfl
  have e2 : (u : Rat) / (l : Rat) * (l : Rat) = u := Rat.div_mul_cancel hl
  generalize (u : Rat) / (l : Rat) = x at *
  generalize (u : Rat) = y at *
  generalize (l : Rat) = z at *
  have e3 : (x * x - c) * (z * z) = 0 := by rw [← e2] at e1; grind
  rcases Rat.mul_eq_zero.mp e3 with h | h
  · grind
  · rcases Rat.mul_eq_zero.mp h with h | h <;> exact (hl h).elim
theorem sp_tidy0 (hb : bz kb b) (h : Q (rt a 0 0)) (hc : b = 0 ∨ c = 0) : F_tidy [dr a, dr b, dr c] Q := by
  unfold F_tidy
  placed_of1
  rw [cN, eqv_dr]
  by_cases b0 : b = 0
  · rw [decide_eq_true b0]
    placed_of1
    exact h
  · rw [decide_eq_false b0]
    placed_of1
    rw [eqv_dr, decide_eq_true (hc.resolve_left b0)]
    placed_of1
    exact h
theorem sp_tidy (hc : Nsq c) (hs : bz kc c) (hk : kc < 3900) (h : Q (nrm a b c)) : F_tidy [dr a, dr b, dr c] Q := by
  by_cases b0 : b = 0
  · rw [b0, nrm_0] at h
    exact sp_tidy0 (kb := 1) (by rw [b0]; exact bz_0) h (.inl b0)
  rw [nrm_1 b0] at h
  have c0 : c ≠ 0 := by have := hc.1; grind
  unfold F_tidy
  placed_of1
  rw [cN, eqv_dr, decide_eq_false b0]
  placed_of1
  rw [eqv_dr, decide_eq_false c0]
  placed_of1
  have hn : 0 ≤ c.num := Rat.num_nonneg.mpr (by have := hc.1; grind)
  refine sp_whole_root hn hs.1 hk fun u u0 u1 u2 => ?_
  placed_of1
  refine sp_whole_root (by omega) (sm_den hs) hk fun v v0 v1 v2 => ?_
  placed_of1
  by_cases e1 : u * u = c.num
  · rw [if_pos e1]
    placed_of1
    by_cases e2 : v * v = ((c.den : Nat) : Int)
    · exact (nsq_no hc e1 e2).elim
    · rw [if_neg e2]
      placed_of1
      exact h
  · rw [if_neg e1]
    placed_of1
    exact h
local macro_rules | `(tactic| dl_keeps) => `(tactic| (with_reducible apply sp_tidy; (focus pv_meta); (focus pv_meta); (focus pv_meta)))
end
local macro_rules | `(tactic| dl_keeps) => `(tactic| (with_reducible apply sp_whole_root; (focus pv_meta); (focus pv_meta); (focus pv_meta)))
local macro_rules | `(tactic| dl_keeps) => `(tactic| (with_reducible apply sp_tidy; (focus pv_meta); (focus pv_meta); (focus pv_meta)))

section
variable {k l m ka kb kc kd ke kf : Nat} {a b c d e f p q C : Rat} {Q : D → Prop}
theorem nrm_eq (a b C : Rat) : nrm a b C = rt a b (trd b C) := rfl
theorem bz_trd (h : bz m C) (hm : 1 ≤ m) : bz m (trd b C) := by
  unfold trd
  split
  · exact bz_mono bz_0 hm
  · exact h
theorem bz_trd1 (h : bz m C) : bz (m + 1) (trd b C) := bz_trd (bz_mono h (by omega)) (by omega)
local macro_rules | `(tactic| dl_puts) => `(tactic| ((with_reducible apply bz_trd1) <;> dl_puts))
/-- tidy where the third part is the common one, or nothing -/
theorem tidy_trd (hc : Nsq C) (hs : bz m C) (hk : m < 3900) (hb : bz kb b) (y : Rat) (h0 : trd y C = 0 → b = 0) (h : Q (nrm a b C)) : F_tidy [dr a, dr b, dr (trd y C)] Q := by
  by_cases hy : trd y C = 0
  · have b0 := h0 hy
    rw [b0, nrm_0] at h
    rw [b0]
    exact sp_tidy0 (kb := 1) bz_0 h (.inl rfl)
  · have : trd y C = C := by unfold trd at *; split <;> grind
    rw [this]
    exact sp_tidy hc hs hk h
theorem trd_eq0 (hc : Nsq C) (h : trd b C = 0) : b = 0 := by
  unfold trd at h
  have := hc.1
  split at h <;> grind
/-- the third part that two numbers choose -/
theorem pick_trd (hc : Nsq C) {X : (D → Prop) → Prop} : True := trivial
def mx (b f : Rat) : Rat := if b = 0 then f else b
theorem mx_0 (h : mx b f = 0) : b = 0 ∧ f = 0 := by
  unfold mx at h
  split at h <;> grind
theorem trd_mx (b f C : Rat) : trd (mx b f) C = if b = 0 then trd f C else trd b C := by
  unfold mx
  split <;> rfl
theorem sp_added_root (hc : Nsq C) (hs : bz m C) (ha : bz k a) (hb : bz k b) (hd : bz k d) (hf : bz k f) (hm : m < 3000) (hk : k < 3000) (h : Q (nrm (a + d) (b + f) C)) : F_added_root [nrm a b C, nrm d f C] Q := by
  rw [nrm_eq a b, nrm_eq d f]
  unfold F_added_root
  placed_of1
  rw [cN, eqv_dr]
  have key : ∀ x, trd (mx b f) C = x → F_tidy [dr (a + d), dr (b + f), dr x] Q := fun x e => by
    rw [← e]
    refine tidy_trd hc hs (by omega) (kb := k + k + 1) (by dl_puts) _ (fun z => ?_) h
    obtain ⟨h1, h2⟩ := mx_0 (trd_eq0 hc z)
    rw [h1, h2]; grind
  rw [trd_mx] at key
  by_cases hb0 : b = 0
  · rw [decide_eq_true hb0]
    rw [if_pos hb0] at key
    placed_of1
    exact key _ rfl
  · rw [decide_eq_false hb0]
    rw [if_neg hb0] at key
    placed_of1
    exact key _ rfl
local macro_rules | `(tactic| dl_keeps) => `(tactic| (with_reducible apply sp_added_root; (focus pv_meta); (focus pv_meta); (focus pv_meta); (focus pv_meta); (focus pv_meta); (focus pv_meta); (focus pv_meta); (focus pv_meta)))
theorem trd_neg (b C : Rat) : trd (-b) C = trd b C := by
  unfold trd
  by_cases h : b = 0
  · rw [if_pos h, if_pos (by rw [h]; rfl)]
  · rw [if_neg h, if_neg (by grind)]
theorem sp_times_root (hc : Nsq C) (hs : bz m C) (ha : bz k a) (hb : bz k b) (hd : bz l d) (hf : bz l f) (hm : m < 1000) (hk : k + l < 1500) (h : Q (nrm (a * d + b * f * C) (a * f + b * d) C)) : F_times_root [nrm a b C, nrm d f C] Q := by
  rw [nrm_eq a b, nrm_eq d f]
  unfold F_times_root
  placed_of1
  rw [cN, eqv_dr]
  have key : ∀ x, trd (mx b f) C = x → F_tidy [dr (a * d + b * f * x), dr (a * f + b * d), dr x] Q := fun x e => by
    have e2 : a * d + b * f * x = a * d + b * f * C := by
      rw [← e]
      by_cases z : trd (mx b f) C = 0
      · obtain ⟨h1, h2⟩ := mx_0 (trd_eq0 hc z)
        rw [h1]; grind
      · have : trd (mx b f) C = C := by unfold trd at *; split <;> grind
        rw [this]
    rw [e2, ← e]
    refine tidy_trd hc hs (by omega) (kb := k + l + (k + l) + 1) (by dl_puts) _ (fun z => ?_) h
    obtain ⟨h1, h2⟩ := mx_0 (trd_eq0 hc z)
    rw [h1, h2]; grind
  rw [trd_mx] at key
  by_cases hb0 : b = 0
  · rw [decide_eq_true hb0]
    rw [if_pos hb0] at key
    placed_of1
    exact key _ rfl
  · rw [decide_eq_false hb0]
    rw [if_neg hb0] at key
    placed_of1
    exact key _ rfl
local macro_rules | `(tactic| dl_keeps) => `(tactic| (with_reducible apply sp_times_root; (focus pv_meta); (focus pv_meta); (focus pv_meta); (focus pv_meta); (focus pv_meta); (focus pv_meta); (focus pv_meta); (focus pv_meta)))
theorem sp_by_fraction (hc : Nsq C) (hs : bz m C) (ha : bz k a) (hb : bz k b) (hp : bz l p) (hm : m < 3000) (hk : k + l < 3000) (h : Q (nrm (a * p) (b * p) C)) : F_by_fraction [nrm a b C, dr p] Q := by
  rw [nrm_eq a b]
  unfold F_by_fraction
  placed_of1
  refine tidy_trd hc hs (by omega) (kb := k + l) (by dl_puts) _ (fun z => ?_) h
  rw [trd_eq0 hc z]; grind
local macro_rules | `(tactic| dl_keeps) => `(tactic| (with_reducible apply sp_by_fraction; (focus pv_meta); (focus pv_meta); (focus pv_meta); (focus pv_meta); (focus pv_meta); (focus pv_meta); (focus pv_meta)))
theorem low_ne (hc : Nsq C) (h : ¬ (d = 0 ∧ f = 0)) : d * d - f * f * C ≠ 0 := fun z => by
  by_cases hf : f = 0
  · rw [hf] at z
    have : d * d = 0 := by grind
    rcases Rat.mul_eq_zero.mp this with h1 | h1 <;> exact h ⟨h1, hf⟩
  · refine hc.2 (d / f) ?_
    have e2 : d / f * f = d := Rat.div_mul_cancel hf
    generalize d / f = x at *
    have e3 : (x * x - C) * (f * f) = 0 := by rw [← e2] at z; grind
    rcases Rat.mul_eq_zero.mp e3 with h1 | h1
    · grind
    · rcases Rat.mul_eq_zero.mp h1 with h1 | h1 <;> exact (hf h1).elim
theorem trd_mulsq (f C : Rat) : f * f * trd f C = f * f * C := by
  unfold trd
  by_cases h : f = 0
  · rw [h]; grind
  · rw [if_neg h]
end
local macro_rules | `(tactic| dl_puts) => `(tactic| ((with_reducible apply bz_trd1) <;> dl_puts))
local macro_rules | `(tactic| dl_keeps) => `(tactic| (with_reducible apply sp_added_root; (focus pv_meta); (focus pv_meta); (focus pv_meta); (focus pv_meta); (focus pv_meta); (focus pv_meta); (focus pv_meta); (focus pv_meta)))
local macro_rules | `(tactic| dl_keeps) => `(tactic| (with_reducible apply sp_times_root; (focus pv_meta); (focus pv_meta); (focus pv_meta); (focus pv_meta); (focus pv_meta); (focus pv_meta); (focus pv_meta); (focus pv_meta)))
local macro_rules | `(tactic| dl_keeps) => `(tactic| (with_reducible apply sp_by_fraction; (focus pv_meta); (focus pv_meta); (focus pv_meta); (focus pv_meta); (focus pv_meta); (focus pv_meta); (focus pv_meta)))


/-! ### draws, points, lines (k08) -/
abbrev wD : D := .dict []
abbrev pt (x y : Rat) : D := .tuple [dr x, dr y]
abbrev ln (a b c : Rat) : D := .tuple [.int 0, dr a, dr b, dr c]
abbrev ci (a b c : Rat) : D := .tuple [.int 1, dr a, dr b, dr c]
local macro_rules | `(tactic| dl_puts) => `(tactic| first | exact bz_mono (by with_reducible assumption) (by omega) | fail)
theorem lit31 : PyData.tuple [.int 3, .int 1] = dr 3 := rfl
theorem litm21 : PyData.tuple [.int (-2), .int 1] = dr (-2) := rfl
theorem lit13 : PyData.tuple [.int 1, .int 3] = dr (1 / 3) := by
  unfold dr
  rw [show (1 / 3 : Rat).num = 1 by decide +kernel, show (1 / 3 : Rat).den = 3 by decide +kernel]
  rfl
theorem lit14 : PyData.tuple [.int 1, .int 4] = dr (1 / 4) := by
  unfold dr
  rw [show (1 / 4 : Rat).num = 1 by decide +kernel, show (1 / 4 : Rat).den = 4 by decide +kernel]
  rfl
theorem bz_3 : bz 2 3 := ⟨by unfold sm; decide, by decide⟩
theorem bz_m2 : bz 2 (-2) := ⟨by unfold sm; decide, by decide⟩
theorem bz_13 : bz 2 (1 / 3) := ⟨by unfold sm; decide +kernel, by decide +kernel⟩
theorem bz_14 : bz 3 (1 / 4) := ⟨by unfold sm; decide +kernel, by decide +kernel⟩
local macro_rules | `(tactic| dl_puts) => `(tactic| first | with_reducible exact bz_3 | with_reducible exact bz_m2 | with_reducible exact bz_13 | with_reducible exact bz_14)
local macro_rules | `(tactic| dl_puts) => `(tactic| first | ((with_reducible apply bz_over); (focus dl_puts); (focus dl_puts); (focus assumption)) | fail)
local macro_rules | `(tactic| keq_rows) => `(tactic| repeat ((fail_if_success (with_reducible show forW _ _ _ _ _)); first | tb_rel | tb_start))
local macro_rules | `(tactic| kct_strs) => `(tactic| repeat (first | tb_rel | tb_start | dl_keeps | rw [lit01] | rw [lit11] | rw [lit21] | rw [lit31] | rw [litm21] | rw [lit13] | rw [lit14]))
section
variable {k l m n : Nat} {a b c d e f g p q u v x y : Rat} {Q : D → Prop}
theorem next_ok {n : Int} (hn : 0 < n) (h : ∀ i, 0 ≤ i → i < n → Q (.int i)) : F__law_next [wD, .int n] Q := ⟨hn, h⟩
theorem sm_of {i : Int} (h1 : -(2 ^ k : Nat) < i) (h2 : i < (2 ^ k : Nat)) : sm k i := by unfold sm; omega
theorem small_ok (h : ∀ p, bz 3 p → Q (dr p)) : F__law_small [wD] Q := by
  unfold F__law_small
  placed_of1
  refine next_ok (by decide) fun i i0 i1 => ?_
  placed_of1
  refine next_ok (by decide) fun j j0 j1 => ?_
  placed_of1
  refine sp__law_frac (k := 3) (by omega) (sm_of (by simp; omega) (by simp; omega)) (sm_of (by simp; omega) (by simp; omega)) (by decide) ?_
  exact h _ (bz_div (by omega) (sm_of (by simp; omega) (by simp; omega)) (sm_of (by simp; omega) (by simp; omega)))
/-! ### lines -/
def fst' (a b : Rat) : Rat := if a = 0 then b else a
theorem fst_ne (h : ¬ (a = 0 ∧ b = 0)) : fst' a b ≠ 0 := by
  unfold fst'
  split
  · rename_i h1; exact fun z => h ⟨h1, z⟩
  · assumption
theorem bz_fst (ha : bz k a) (hb : bz k b) : bz k (fst' a b) := by unfold fst'; split <;> assumption
theorem dr_ne0 (a : Rat) : PyData.eqv (dr a) c_NOTHING = decide (a = 0) := by rw [cN, eqv_dr]
theorem xline_ok (ha : bz k a) (hb : bz k b) (hc : bz k c) (hk : k < 3900) (h1 : (a = 0 ∧ b = 0) → Q (exD "line")) (h : ¬ (a = 0 ∧ b = 0) → Q (.tuple [ln (a / fst' a b) (b / fst' a b) (c / fst' a b), .bool (decide ((fst' a b).num < 0))])) : FX_line [dr a, dr b, dr c] Q := by
  unfold FX_line
  placed_of0
  rw [dr_ne0]
  have key : ∀ f, fst' a b = f → bz k f → sSeq (sIf (eT (eOp fEq (eVar 3) (eC c_NOTHING))) (sRaise (Str.ofString "line")) sNext)
          (sRet
            (eTup
              (aCons
                (eTup
                  (aCons (eC (PyData.int 0))
                    (aCons (eCallN 2 F_over (aCons (eVar 0) (aCons (eVar 3) aNil)))
                      (aCons (eCallN 2 F_over (aCons (eVar 1) (aCons (eVar 3) aNil)))
                        (aCons (eCallN 2 F_over (aCons (eVar 2) (aCons (eVar 3) aNil))) aNil)))))
                (aCons (eOp fLt (eOp fIx (eVar 3) (eC (PyData.int 0))) (eC (PyData.int 0))) aNil))))
          [Sl.va (dr a), Sl.va (dr b), Sl.va (dr c), Sl.va (dr f)] { nx := fun x => Q PyData.none, rt := Q, bk := fun x => False, ct := fun x => False } := by
    intro f hf hbf
    placed_of0
    rw [dr_ne0]
    by_cases hf0 : f = 0
    · rw [decide_eq_true hf0]
      placed_of0
      refine h1 ?_
      rw [← hf] at hf0
      exact Classical.byContradiction fun z => fst_ne z hf0
    · rw [decide_eq_false hf0]
      have hn : ¬ (a = 0 ∧ b = 0) := fun z => hf0 (by rw [← hf]; unfold fst'; rw [if_pos z.1]; exact z.2)
      have h := h hn
      rw [hf] at h
      placed_of1
      exact h
  by_cases ha0 : a = 0
  · rw [decide_eq_true ha0]
    kfm_turns
    exact key b (by unfold fst'; rw [if_pos ha0]) hb
  · rw [decide_eq_false ha0]
    kfm_turns
    exact key a (by unfold fst'; rw [if_neg ha0]) ha
theorem line_ok (h0 : ¬ (a = 0 ∧ b = 0)) (ha : bz k a) (hb : bz k b) (hc : bz k c) (hk : k < 3900) (h : ∀ t, Q (.tuple [ln (a / fst' a b) (b / fst' a b) (c / fst' a b), .bool t])) : F_line [dr a, dr b, dr c] Q := by
  unfold F_line
  tb_rel
  refine xline_ok ha hb hc hk (fun z => (h0 z).elim) fun _ => ?_
  placed_of0
  exact h _
/-- the same as the law has it -/
theorem lline_ok (h0 : ¬ (a = 0 ∧ b = 0)) (ha : bz k a) (hb : bz k b) (hc : bz k c) (hk : k < 3900) (h : Q (ln (a / fst' a b) (b / fst' a b) (c / fst' a b))) : F__law_line [dr a, dr b, dr c] Q := by
  unfold F__law_line
  placed_of1
  have hfb := bz_fst ha hb
  have hf0 := fst_ne h0
  rw [eqv_int]
  by_cases ha0 : a = 0
  · rw [decide_eq_true (by rw [ha0]; rfl)]
    have e : fst' a b = b := by unfold fst'; rw [if_pos ha0]
    rw [e] at h hf0
    placed_of1
    exact h
  · rw [decide_eq_false (num_ne ha0)]
    have e : fst' a b = a := by unfold fst'; rw [if_neg ha0]
    rw [e] at h hf0
    placed_of1
    exact h
end

section
variable {k l m n : Nat} {a b c d e f g p q u v x y : Rat} {Q : D → Prop}
theorem rsq_pos {x : Rat} (h : x ≠ 0) : 0 < x * x := by
  by_cases h0 : 0 < x
  · exact Rat.mul_pos h0 h0
  · have := Rat.mul_pos (a := -x) (b := -x) (by grind) (by grind)
    grind
theorem rsq_nonneg (x : Rat) : 0 ≤ x * x := by
  by_cases h : x = 0
  · rw [h]; grind
  · exact Rat.le_of_lt (rsq_pos h)
theorem nn_ne (h : ¬ (a = 0 ∧ b = 0)) : a * a + b * b ≠ 0 := by
  have h1 := rsq_nonneg a
  have h2 := rsq_nonneg b
  by_cases ha : a = 0
  · have := rsq_pos (x := b) fun z => h ⟨ha, z⟩
    grind
  · have := rsq_pos ha
    grind
/-! ### sides of points -/
end

section
variable {k l m n : Nat} {a b c d e f g p q r u v x y : Rat} {Q : D → Prop}
theorem num_pos' (r : Rat) : 0 < r.num ↔ 0 < r := by
  have h1 := Rat.num_nonneg (q := r)
  have h2 := Rat.num_eq_zero (q := r)
  constructor
  · intro h
    have a1 : 0 ≤ r := h1.mp (by omega)
    have a2 : r ≠ 0 := fun z => by have := h2.mpr z; omega
    grind
  · intro h
    have a1 : 0 ≤ r.num := h1.mpr (by grind)
    have a2 : r.num ≠ 0 := fun z => by have := h2.mp z; grind
    omega
theorem sgn_gt0 (r : Rat) : decide (0 < r.num.sign) = decide (0 < r) := by
  have h1 : 0 < r.num.sign ↔ 0 < r := by
    rw [← num_pos']
    exact Int.sign_pos_iff
  by_cases h : 0 < r
  · rw [decide_eq_true h, decide_eq_true (h1.mpr h)]
  · rw [decide_eq_false h, decide_eq_false fun z => h (h1.mp z)]
theorem sgn_le0 (r : Rat) : decide (r.num.sign ≤ 0) = decide (r ≤ 0) := by
  have h1 : 0 < r.num.sign ↔ 0 < r := by
    rw [← num_pos']
    exact Int.sign_pos_iff
  by_cases h : r ≤ 0
  · rw [decide_eq_true h, decide_eq_true]
    exact Classical.byContradiction fun z => by have := h1.mp (by omega); grind
  · rw [decide_eq_false h, decide_eq_false fun z => ?_]
    have := h1.mpr (by grind)
    omega
theorem sgn_eq0 (r : Rat) : decide (r.num.sign = 0) = decide (r = 0) := by
  have h1 : r.num.sign = 0 ↔ r = 0 := by
    rw [Int.sign_eq_zero_iff_zero, Rat.num_eq_zero]
  by_cases h : r = 0
  · rw [decide_eq_true h, decide_eq_true (h1.mpr h)]
  · rw [decide_eq_false h, decide_eq_false fun z => h (h1.mp z)]
/-! ### circles -/
theorem xcircle_ok (hx : bz k x) (hy : bz k y) (hr : bz k r) (hk : k < 1500) (h1 : r ≤ 0 → Q (exD "circle")) (h : 0 < r → Q (ci (-2 * x) (-2 * y) (x * x + y * y - r))) : FX_circle [dr x, dr y, dr r] Q := by
  unfold FX_circle
  kct_strs
  rw [sgn_le0]
  by_cases h0 : r ≤ 0
  · rw [decide_eq_true h0]
    placed_of0
    exact h1 h0
  · rw [decide_eq_false h0]
    kct_strs
    exact h (by grind)
theorem circle_ok (h0 : 0 < r) (hx : bz k x) (hy : bz k y) (hr : bz k r) (hk : k < 1500) (h : Q (ci (-2 * x) (-2 * y) (x * x + y * y - r))) : F_circle [dr x, dr y, dr r] Q := by
  unfold F_circle
  tb_rel
  refine xcircle_ok hx hy hr hk (fun z => by grind) fun _ => ?_
  placed_of0
  exact h
theorem lcircle_ok (hx : bz k x) (hy : bz k y) (hr : bz k r) (hk : k < 900) (h : Q (ci (-2 * x) (-2 * y) (x * x + y * y - r))) : F__law_circle [dr x, dr y, dr r] Q := by
  unfold F__law_circle
  kct_strs
  exact h
theorem middle_ok (ha : bz k a) (hb : bz k b) (hk : k < 3000) (h : Q (pt (-a / 2) (-b / 2))) : F_middle_of [ci a b c] Q := by
  unfold F_middle_of
  kct_strs
  exact h
theorem radius_ok (ha : bz k a) (hb : bz k b) (hc : bz k c) (hk : k < 900) (h : Q (dr (-a / 2 * (-a / 2) + -b / 2 * (-b / 2) - c))) : F_radius_of [ci a b c] Q := by
  unfold F_radius_of
  kct_strs
  refine middle_ok ha hb (by omega) ?_
  have h2a : bz (k + 2) (-a / 2) := bz_over (bz_neg ha) bz_2 (by decide)
  have h2b : bz (k + 2) (-b / 2) := bz_over (bz_neg hb) bz_2 (by decide)
  kct_strs
  exact h
theorem sp_is_number (i : Int) (h : Q (.bool true)) : F_is_number [.int i] Q := by
  unfold F_is_number
  placed_of1
  exact h
theorem sp_common {i j : Int} (h : Q (.int (Int.gcd i j : Nat))) : F_common [.int i, .int j] Q := common_ok h
theorem gcd_dr (p : Rat) : Int.gcd p.num (p.den : Nat) = 1 := by
  have := p.reduced
  unfold Int.gcd
  rw [Int.natAbs_natCast]
  exact this
theorem sp_is_fraction (h : Q (.bool true)) : F_is_fraction [dr p] Q := by
  unfold F_is_fraction
  placed_of0
  refine sp_is_number _ ?_
  placed_of0
  refine sp_is_number _ ?_
  placed_of0
  rw [decide_eq_true (by have := p.den_pos; omega)]
  placed_of0
  refine sp_common ?_
  rw [gcd_dr]
  placed_of0
  exact h
instance : Stp (fInT true (.int 1) (.tuple [.int 0, .int 1]) Q) (Q (.bool false)) := ⟨fun q => q⟩
instance : Stp (fInT true (.int 0) (.tuple [.int 0, .int 1]) Q) (Q (.bool false)) := ⟨fun q => q⟩
theorem is_curve_ci (ha : bz k a) (hb : bz k b) (hc : bz k c) (hk : k < 900) (h : Q (.bool (decide (0 < -a / 2 * (-a / 2) + -b / 2 * (-b / 2) - c)))) : F_is_curve [ci a b c] Q := by
  unfold F_is_curve
  placed_of0
  rw [show cutD [PyData.int 1, dr a, dr b, dr c] (some 1) none = [dr a, dr b, dr c] from rfl]
  placed_of0
  refine sp_is_fraction ?_
  placed_of0
  refine sp_is_fraction ?_
  placed_of0
  refine sp_is_fraction ?_
  placed_of0
  refine radius_ok ha hb hc hk ?_
  placed_of1
  rw [sgn_gt0]
  exact h
theorem is_curve_ln (h1 : a = 1 ∨ a = 0 ∧ b = 1) (h : Q (.bool true)) : F_is_curve [ln a b c] Q := by
  unfold F_is_curve
  placed_of0
  rw [show cutD [PyData.int 0, dr a, dr b, dr c] (some 1) none = [dr a, dr b, dr c] from rfl]
  placed_of0
  refine sp_is_fraction ?_
  placed_of0
  refine sp_is_fraction ?_
  placed_of0
  refine sp_is_fraction ?_
  placed_of0
  rw [lit11, eqv_dr]
  by_cases ha : a = 1
  · rw [decide_eq_true ha]
    placed_of0
    exact h
  · rcases h1 with h1 | ⟨h1, h2⟩
    · exact (ha h1).elim
    rw [decide_eq_false ha]
    placed_of0
    rw [dr_ne0, decide_eq_true h1]
    placed_of0
    rw [lit11, eqv_dr, decide_eq_true h2]
    exact h
/-! ### the circle through three points -/
theorem xthrough_ok (hx : bz k x) (hy : bz k y) (hu : bz k u) (hv : bz k v) (hp : bz k p) (hq : bz k q) (hk : k < 12) (h1 : (u - x) * (q - y) - (v - y) * (p - x) = 0 → Q (exD "circle"))
    (h : ∀ m n : Rat, (u - x) * (q - y) - (v - y) * (p - x) ≠ 0 → (x - m) * (x - m) + (y - n) * (y - n) = (u - m) * (u - m) + (v - n) * (v - n) → (x - m) * (x - m) + (y - n) * (y - n) = (p - m) * (p - m) + (q - n) * (q - n) → bz (28 * k + 16) m → bz (28 * k + 16) n → 
      Q (ci (-2 * m) (-2 * n) (m * m + n * n - ((x - m) * (x - m) + (y - n) * (y - n))))) : FX_circle_through [pt x y, pt u v, pt p q] Q := by
  unfold FX_circle_through
  placed_of1
  rw [lit21]
  placed_of1
  rw [dr_ne0]
  by_cases h0 : 2 * ((u - x) * (q - y) - (v - y) * (p - x)) = 0
  · rw [decide_eq_true h0]
    placed_of0
    exact h1 (by grind)
  rw [decide_eq_false h0]
  have h0' : (u - x) * (q - y) - (v - y) * (p - x) ≠ 0 := by grind
  have bl : bz (8 * k + 7) (2 * ((u - x) * (q - y) - (v - y) * (p - x))) := bz_mono (by dl_puts) (by omega)
  have bm : bz (28 * k + 16) (((u * u + v * v - (x * x + y * y)) * (q - y) - (v - y) * (p * p + q * q - (x * x + y * y))) / (2 * ((u - x) * (q - y) - (v - y) * (p - x)))) := bz_mono (bz_over (by dl_puts) bl h0) (by omega)
  have bn : bz (28 * k + 16) (((u - x) * (p * p + q * q - (x * x + y * y)) - (u * u + v * v - (x * x + y * y)) * (p - x)) / (2 * ((u - x) * (q - y) - (v - y) * (p - x)))) := bz_mono (bz_over (by dl_puts) bl h0) (by omega)
  placed_of1
  obtain ⟨m, em⟩ : ∃ m, m = ((u * u + v * v - (x * x + y * y)) * (q - y) - (v - y) * (p * p + q * q - (x * x + y * y))) / (2 * ((u - x) * (q - y) - (v - y) * (p - x))) := ⟨_, rfl⟩
  obtain ⟨n, en⟩ : ∃ n, n = ((u - x) * (p * p + q * q - (x * x + y * y)) - (u * u + v * v - (x * x + y * y)) * (p - x)) / (2 * ((u - x) * (q - y) - (v - y) * (p - x))) := ⟨_, rfl⟩
  rw [← em, ← en]
  rw [← em] at bm
  rw [← en] at bn
  have em' : m * (2 * ((u - x) * (q - y) - (v - y) * (p - x))) = (u * u + v * v - (x * x + y * y)) * (q - y) - (v - y) * (p * p + q * q - (x * x + y * y)) := by rw [em]; exact Rat.div_mul_cancel h0
  have en' : n * (2 * ((u - x) * (q - y) - (v - y) * (p - x))) = (u - x) * (p * p + q * q - (x * x + y * y)) - (u * u + v * v - (x * x + y * y)) * (p - x) := by rw [en]; exact Rat.div_mul_cancel h0
  clear em en bl
  have q1 : (x - m) * (x - m) + (y - n) * (y - n) = (u - m) * (u - m) + (v - n) * (v - n) := by
    have e : (2 * (u - x) * m + 2 * (v - y) * n - (u * u + v * v - (x * x + y * y))) * ((u - x) * (q - y) - (v - y) * (p - x)) = 0 := by grind
    rcases Rat.mul_eq_zero.mp e with e | e
    · grind
    · exact (h0' e).elim
  have q2 : (x - m) * (x - m) + (y - n) * (y - n) = (p - m) * (p - m) + (q - n) * (q - n) := by
    have e : (2 * (p - x) * m + 2 * (q - y) * n - (p * p + q * q - (x * x + y * y))) * ((u - x) * (q - y) - (v - y) * (p - x)) = 0 := by grind
    rcases Rat.mul_eq_zero.mp e with e | e
    · grind
    · exact (h0' e).elim
  have key := h m n h0' q1 q2 bm bn
  refine xcircle_ok (k := 116 * k + 70) (bz_mono bm (by omega)) (bz_mono bn (by omega)) (bz_mono (by dl_puts) (by omega)) (by omega) (fun hr => ?_) fun _ => key
  exfalso
  have s1 := rsq_nonneg (x - m)
  have s2 := rsq_nonneg (y - n)
  have s3 := rsq_nonneg (u - m)
  have s4 := rsq_nonneg (v - n)
  have s5 := rsq_nonneg (p - m)
  have s6 := rsq_nonneg (q - n)
  have zz : ∀ t : Rat, 0 ≤ t * t → t * t ≤ 0 → t = 0 := fun t h1 h2 => by
    refine Classical.byContradiction fun z => ?_
    have := rsq_pos z
    grind
  have z1 := zz (x - m) s1 (by grind)
  have z2 := zz (y - n) s2 (by grind)
  have z3 := zz (u - m) s3 (by grind)
  have z4 := zz (v - n) s4 (by grind)
  refine h0' ?_
  have : u - x = 0 := by grind
  have : v - y = 0 := by grind
  grind
theorem through_ok (h0 : (u - x) * (q - y) - (v - y) * (p - x) ≠ 0) (hx : bz k x) (hy : bz k y) (hu : bz k u) (hv : bz k v) (hp : bz k p) (hq : bz k q) (hk : k < 12)
    (h : ∀ m n : Rat, (x - m) * (x - m) + (y - n) * (y - n) = (u - m) * (u - m) + (v - n) * (v - n) → (x - m) * (x - m) + (y - n) * (y - n) = (p - m) * (p - m) + (q - n) * (q - n) → bz (28 * k + 16) m → bz (28 * k + 16) n → 
      Q (ci (-2 * m) (-2 * n) (m * m + n * n - ((x - m) * (x - m) + (y - n) * (y - n))))) : F_circle_through [pt x y, pt u v, pt p q] Q := by
  unfold F_circle_through
  tb_rel
  refine xthrough_ok hx hy hu hv hp hq hk (fun z => (h0 z).elim) fun m n _ q1 q2 bm bn => ?_
  placed_of0
  exact h m n q1 q2 bm bn
end

section
variable {k l m n ka kb kc kd ke kf : Nat} {a b c d e f g p q r s t u v x y z C X Y : Rat} {Q : D → Prop}
/-! ### judges (k01) -/
local macro_rules | `(tactic| dl_keeps) => `(tactic| (with_reducible apply sp_is_number))
local macro_rules | `(tactic| dl_keeps) => `(tactic| (with_reducible apply sp_common))
local macro_rules | `(tactic| dl_keeps) => `(tactic| (with_reducible apply sp_is_fraction))
theorem sp_is_root (hz : 0 ≤ z) (hyz : y = 0 ↔ z = 0) (h : Q (.bool true)) : F_is_root [rt x y z] Q := by
  unfold F_is_root
  placed_of1
  rw [decide_eq_true (Rat.num_nonneg.mpr hz)]
  placed_of1
  rw [cN, eqv_dr]
  placed_of1
  rw [eqv_dr]
  have e : PyData.eqv (.bool !decide (y = 0)) (.bool !decide (z = 0)) = true := by
    show ((!decide (y = 0)) == (!decide (z = 0))) = true
    by_cases h1 : y = 0
    · rw [decide_eq_true h1, decide_eq_true (hyz.mp h1)]; rfl
    · rw [decide_eq_false h1, decide_eq_false fun w => h1 (hyz.mpr w)]; rfl
  rw [e]
  exact h
theorem is_root_nrm (hc : Nsq C) (h : Q (.bool true)) : F_is_root [nrm a b C] Q := by
  rw [nrm_eq]
  refine sp_is_root ?_ ⟨fun z => ?_, trd_eq0 hc⟩ h
  · have := hc.1
    unfold trd
    split <;> grind
  · unfold trd; rw [if_pos z]
/-! ### what compare tells -/
theorem cmp_val (hc : 0 ≤ c) (hf : 0 ≤ f) : cmp a b c d e f = sr (val a b c - val d e f) := by
  unfold cmp
  rw [sg2_val hc hf]
  congr 1
  unfold val
  rw [Rl.q_sub, Rl.q_neg]
  grind
theorem val_trd (a b C : Rat) : val a b (trd b C) = val a b C := by
  unfold trd val
  by_cases h : b = 0
  · rw [h, Rl.q_zero]; grind
  · rw [if_neg h]
theorem trd_nonneg (h : 0 ≤ C) : 0 ≤ trd b C := by unfold trd; split <;> grind
/-! ### tidy of squares -/
theorem nsq_of {k : Nat} (h0 : 0 < c) (h1 : k * k < c.num.natAbs) (h2 : c.num.natAbs < (k + 1) * (k + 1)) : Nsq c := by
  refine ⟨h0, fun r hr => ?_⟩
  have e : (r * r).num = r.num * r.num := by
    have := dr_sq r
    simp only [dr, PyData.tuple.injEq, List.cons.injEq, PyData.int.injEq] at this
    exact this.1.symm
  rw [hr] at e
  rw [e, Int.natAbs_mul] at h1 h2
  generalize r.num.natAbs = p at *
  rcases Nat.lt_or_ge k p with h | h
  · have := Nat.mul_le_mul (show k + 1 ≤ p from h) (show k + 1 ≤ p from h)
    omega
  · have := Nat.mul_le_mul h h
    omega
theorem nsq_2 : Nsq 2 := nsq_of (k := 1) (by decide) (by decide) (by decide)
theorem sq_parts (s : Rat) : (s * s).num = s.num * s.num ∧ (((s * s).den : Nat) : Int) = ((s.den : Nat) : Int) * ((s.den : Nat) : Int) := by
  have := dr_sq s
  simp only [dr, PyData.tuple.injEq, List.cons.injEq, PyData.int.injEq] at this
  exact ⟨this.1.symm, this.2.1.symm⟩
theorem root_uniq {i j : Int} (hi : 0 ≤ i) (hj : 0 ≤ j) (h1 : i * i ≤ j * j) (h2 : j * j < (i + 1) * (i + 1)) : i = j := by
  rcases Int.lt_trichotomy i j with h | h | h
  · have := Int.mul_le_mul (show i + 1 ≤ j by omega) (show i + 1 ≤ j by omega) (by omega) (by omega)
    omega
  · exact h
  · have := Int.mul_le_mul (show j + 1 ≤ i by omega) (show j + 1 ≤ i by omega) (by omega) (by omega)
    have e : (j + 1) * (j + 1) = j * j + 2 * j + 1 := by grind
    omega
theorem sp_tidy_sq (h0 : 0 ≤ s) (hcs : bz kc (s * s)) (hbs : bz kc s) (ha : bz ka a) (hb : bz kb b) (hk : kc + ka + kb < 3900) (h : Q (rt (a + b * s) 0 0)) : F_tidy [dr a, dr b, dr (s * s)] Q := by
  by_cases b0 : b = 0
  · refine sp_tidy0 hb ?_ (.inl b0)
    rw [b0, show a + 0 * s = a by grind] at h
    exact h
  by_cases s0 : s * s = 0
  · refine sp_tidy0 hb ?_ (.inr s0)
    have : s = 0 := by rcases Rat.mul_eq_zero.mp s0 with h | h <;> exact h
    rw [this, show a + b * 0 = a by grind] at h
    exact h
  obtain ⟨e1, e2⟩ := sq_parts s
  have n0 : 0 ≤ s.num := Rat.num_nonneg.mpr h0
  unfold F_tidy
  placed_of1
  rw [cN, eqv_dr, decide_eq_false b0]
  placed_of1
  rw [eqv_dr, decide_eq_false s0]
  placed_of1
  have hn : 0 ≤ (s * s).num := by rw [e1]; exact Int.mul_nonneg n0 n0
  refine sp_whole_root hn hcs.1 (by omega) fun u u0 u1 u2 => ?_
  placed_of1
  refine sp_whole_root (by omega) (sm_den hcs) (by omega) fun v v0 v1 v2 => ?_
  placed_of1
  rw [e1] at u1 u2
  rw [e2] at v1 v2
  have eu := root_uniq u0 n0 u1 u2
  have ev := root_uniq v0 (by omega) v1 v2
  subst eu
  subst ev
  rw [e1, e2, if_pos rfl]
  placed_of1
  rw [if_pos rfl]
  placed_of1
  exact h
end
local macro_rules | `(tactic| dl_keeps) => `(tactic| (with_reducible apply sp_is_number))
local macro_rules | `(tactic| dl_keeps) => `(tactic| (with_reducible apply sp_common))
local macro_rules | `(tactic| dl_keeps) => `(tactic| (with_reducible apply sp_is_fraction))

section
variable {k l m n ka kb kc kd ke kf : Nat} {a b c d e f g p q r s t u v x y z C X Y : Rat} {Q : D → Prop}
theorem half_sq {s : Int} (h : sm k (s * s)) : sm (k / 2 + 1) s := by
  unfold sm at *
  rw [Int.natAbs_mul] at h
  refine Classical.byContradiction fun z => ?_
  have h1 := Nat.mul_le_mul (Nat.le_of_not_lt z) (Nat.le_of_not_lt z)
  rw [← Nat.pow_add] at h1
  have h2 : 2 ^ k ≤ 2 ^ (k / 2 + 1 + (k / 2 + 1)) := Nat.pow_le_pow_right (by decide) (by omega)
  omega
theorem bz_sqrt (h : bz k (s * s)) : bz (k / 2 + 1) s := by
  obtain ⟨e1, e2⟩ := sq_parts s
  refine ⟨half_sq (by rw [← e1]; exact h.1), ?_⟩
  have h2 : sm (k / 2 + 1) ((s.den : Nat) : Int) := half_sq (by rw [← e2]; exact sm_den h)
  unfold sm at h2
  rwa [Int.natAbs_natCast] at h2
theorem nsq_or (h : 0 < c) : (∃ s, 0 ≤ s ∧ c = s * s) ∨ Nsq c := by
  by_cases hs : ∃ s, 0 ≤ s ∧ c = s * s
  · exact .inl hs
  · refine .inr ⟨h, fun r hr => hs ?_⟩
    by_cases h0 : 0 ≤ r
    · exact ⟨r, h0, hr.symm⟩
    · exact ⟨-r, by grind, by grind⟩
theorem val_lt_q (h : p < q) : val p 0 C < val q 0 C := by
  unfold val
  have := Rl.q_lt.mpr h
  rw [Rl.q_zero]
  grind
theorem val_lt_r (hc : Nsq C) (h : q < s) : val p q C < val p s C := by
  unfold val
  have h1 := Rl.q_lt.mpr h
  have h2 := Rl.mul_pos (x := Rl.q s - Rl.q q) (by grind) (sq_pos hc.1)
  grind
/-! ### both roots -/
structure Two (a b c m1 p1 m2 p2 C : Rat) : Prop where
  e1 : a * (m1 * m1 + p1 * p1 * C) + b * m1 + c = 0
  f1 : (2 * a * m1 + b) * p1 = 0
  e2 : a * (m2 * m2 + p2 * p2 * C) + b * m2 + c = 0
  f2 : (2 * a * m2 + b) * p2 = 0
  lt : val m1 p1 C < val m2 p2 C
theorem sgn_lt0 (r : Rat) : decide (r.num.sign < 0) = decide (r < 0) := by
  have h1 := sgn_gt0 (-r)
  rw [Rat.neg_num, Int.sign_neg] at h1
  by_cases h : r < 0
  · rw [decide_eq_true (show 0 < -r by grind)] at h1
    have := of_decide_eq_true h1
    rw [decide_eq_true h, decide_eq_true (by omega)]
  · rw [decide_eq_false (show ¬ 0 < -r by grind)] at h1
    have := of_decide_eq_false h1
    rw [decide_eq_false h, decide_eq_false (by omega)]
theorem two_eq {a b c m P R : Rat} (l0 : 2 * a ≠ 0) (em : m * (2 * a) = -b) (eP : (P * P) * (4 * (a * a)) = 1) (hR : b * b - 4 * (a * c) = R) : a * (m * m + P * P * R) + b * m + c = 0 := by
  have z : (a * (m * m + P * P * R) + b * m + c) * (2 * a) = 0 := by
    have y1 : (a * (m * m + P * P * R) + b * m + c) * (2 * a) * 2 = (m * (2 * a)) * (m * (2 * a)) + (P * P) * (4 * (a * a)) * R + 2 * b * (m * (2 * a)) + 4 * (a * c) := by grind
    rw [em, eP] at y1
    grind
  rcases Rat.mul_eq_zero.mp z with z | z
  · exact z
  · exact (l0 z).elim
theorem both_roots_ok (ha0 : a ≠ 0) (ha : bz ka a) (hb : bz kb b) (hc : bz kc c) (hk : 2 * kb + 4 * ka + kc < 1500)
    (h0 : b * b - 4 * (a * c) < 0 → Q (.list []))
    (h1 : b * b - 4 * (a * c) = 0 → bz (kb + ka + 2) (-b / (2 * a)) → Q (.list [nrm (-b / (2 * a)) 0 2]))
    (h2 : 0 < b * b - 4 * (a * c) → ∀ M P R m1 p1 m2 p2 C, (M = kb + ka + 2 ∧ P = ka + 3 ∧ R = 2 * kb + ka + kc + 4 ∨ M = kb + 2 * ka + 6 + (2 * kb + ka + kc + 4) / 2 + 1 ∧ P = 1 ∧ R = 2) → Nsq C → bz R C → bz M m1 → bz P p1 → bz M m2 → bz P p2 → Two a b c m1 p1 m2 p2 C → Q (.list [nrm m1 p1 C, nrm m2 p2 C])) : F_both_roots [dr a, dr b, dr c] Q := by
  have bl : bz (ka + 2) (2 * a) := bz_mono (by dl_puts) (by omega)
  have l0 : 2 * a ≠ 0 := by grind
  have br : bz (2 * kb + ka + kc + 4) (b * b - 4 * (a * c)) := bz_mono (bz_sub (bz_mul hb hb) (bz_mul (k := 3) ⟨by unfold sm; decide, by decide⟩ (bz_mul ha hc))) (by omega)
  have bm : bz (kb + ka + 2) (-b / (2 * a)) := bz_mono (bz_over (bz_neg hb) bl l0) (by omega)
  have bp : bz (ka + 3) (1 / (2 * a)) := bz_mono (bz_over bz_1 bl l0) (by omega)
  have bp' := bz_neg bp
  have b4 : bz 3 (4 : Rat) := ⟨by unfold sm; decide, by decide⟩
  have lit41 : PyData.tuple [.int 4, .int 1] = dr 4 := rfl
  unfold F_both_roots
  kct_strs
  rw [lit41]
  kct_strs
  generalize hR : b * b - 4 * (a * c) = R at *
  rw [sgn_lt0]
  by_cases c0 : R < 0
  · rw [decide_eq_true c0]
    placed_of0
    exact h0 c0
  rw [decide_eq_false c0]
  kct_strs
  rw [dr_ne0]
  by_cases c1 : R = 0
  · rw [decide_eq_true c1]
    kct_strs
    exact h1 c1 bm
  rw [decide_eq_false c1]
  kct_strs
  rw [sgn_gt0]
  have c2 : 0 < R := by grind
  generalize hm : -b / (2 * a) = m at *
  have em : m * (2 * a) = -b := by rw [← hm]; exact Rat.div_mul_cancel l0
  have ep : 1 / (2 * a) * (2 * a) = 1 := Rat.div_mul_cancel l0
  have fin : ∀ P : Rat, 0 < P → bz (ka + 3) P → (P * P) * (4 * (a * a)) = 1 → sRet (eLst (aCons (eCallN 3 F_tidy (aCons (eVar 5) (aCons (eCallN 1 F_turned (aCons (eVar 6) aNil)) (aCons (eVar 3) aNil)))) (aCons (eCallN 3 F_tidy (aCons (eVar 5) (aCons (eVar 6) (aCons (eVar 3) aNil)))) aNil)))
      [Sl.va (dr a), Sl.va (dr b), Sl.va (dr c), Sl.va (dr R), Sl.va (dr (2 * a)), Sl.va (dr m), Sl.va (dr P)] { nx := fun x => Q PyData.none, rt := Q, bk := fun x => False, ct := fun x => False } := by
    intro P hP bP eP
    have bP' := bz_neg bP
    have f0 : 2 * a * m + b = 0 := by grind
    have e0 : a * (m * m + P * P * R) + b * m + c = 0 := two_eq l0 em eP hR
    rcases nsq_or c2 with ⟨s, s0, es⟩ | hN
    · have bs := bz_sqrt (es ▸ br)
      have sp : 0 < s := by
        by_cases h : s = 0
        · rw [h] at es; grind
        · grind
      kct_strs
      rw [es]
      refine sp_tidy_sq s0 (es ▸ br) (bz_mono bs (by omega)) bm bP' (by omega) ?_
      kct_strs
      refine sp_tidy_sq s0 (es ▸ br) (bz_mono bs (by omega)) bm bP (by omega) ?_
      kct_strs
      have b1 : bz (kb + 2 * ka + 6 + (2 * kb + ka + kc + 4) / 2 + 1) (m + -P * s) := bz_mono (bz_add bm (bz_mul bP' bs)) (by omega)
      have b2 : bz (kb + 2 * ka + 6 + (2 * kb + ka + kc + 4) / 2 + 1) (m + P * s) := bz_mono (bz_add bm (bz_mul bP bs)) (by omega)
      refine h2 c2 _ _ _ (m + -P * s) 0 (m + P * s) 0 2 (.inr ⟨rfl, rfl, rfl⟩) nsq_2 bz_2 b1 bz_0 b2 bz_0 ⟨by grind, by grind, by grind, by grind, val_lt_q ?_⟩
      have := Rat.mul_pos hP sp
      grind
    · kct_strs
      refine h2 c2 _ _ _ m (-P) m P R (.inl ⟨rfl, rfl, rfl⟩) hN br bm bP' bm bP ⟨by grind, by grind, by grind, by grind, val_lt_r hN (by grind)⟩
  by_cases hp : 0 < 1 / (2 * a)
  · rw [decide_eq_true hp]
    repeat (first | (with_reducible refine fin _ hp bp ?_) | tb_rel | dl_keeps)
    grind
  · rw [decide_eq_false hp]
    repeat (first | (with_reducible refine fin _ ?_ bp' ?_) | tb_rel | dl_keeps)
    · refine Classical.byContradiction fun z => ?_
      have : 1 / (2 * a) = 0 := by grind
      rw [this] at ep
      grind
    · grind
end

section
variable {k l m n ka kb kc kd ke kf : Nat} {a b c d e f g p q r s t u v x y z C X Y : Rat} {Q : D → Prop}
/-! ### points with roots -/
abbrev pn (p q r s C : Rat) : D := .tuple [nrm p q C, nrm r s C]
/-- few bits, told of both parts -/
def PB (p q r s C : Rat) : Prop := Nsq C ∧ ∃ M P R : Nat, 16 * M + 12 * P + 3 * R ≤ 6000 ∧ M ≤ 400 ∧ P ≤ 100 ∧ R ≤ 400 ∧ bz M p ∧ bz P q ∧ bz (M + 56) r ∧ bz (P + 25) s ∧ bz R C
theorem pn_eq (p q r s C : Rat) : pn p q r s C = .tuple [rt p q (trd q C), rt r s (trd s C)] := rfl
theorem sg1_0 (a c : Rat) : sg1 a 0 c = sgn a := by
  rw [sg1_def _ 0 rfl (by split <;> rfl), if_pos (.inr rfl)]
theorem sg1_trd (a b C : Rat) : sg1 a b (trd b C) = sg1 a b C := by
  by_cases h : b = 0
  · rw [h, sg1_0, sg1_0]
  · unfold trd; rw [if_neg h]
theorem trd_or (b C : Rat) : trd b C = C ∨ b = 0 ∧ trd b C = 0 := by
  unfold trd
  by_cases h : b = 0
  · rw [if_pos h]; exact .inr ⟨h, rfl⟩
  · rw [if_neg h]; exact .inl rfl
theorem lit41 : PyData.tuple [.int 4, .int 1] = dr 4 := rfl
theorem bz_4 : bz 3 (4 : Rat) := ⟨by unfold sm; decide, by decide⟩
local macro_rules | `(tactic| dl_puts) => `(tactic| with_reducible exact bz_4)
theorem num_trd (hc : Nsq C) : decide (0 < (trd q C).num) = !decide (q = 0) := by
  have h1 := num_c (c := trd q C) (trd_nonneg (by have := hc.1; grind))
  by_cases h : q = 0
  · rw [decide_eq_true h, decide_eq_false]
    · rfl
    · rw [h1]; unfold trd; rw [if_pos h]; exact fun z => z rfl
  · rw [decide_eq_false h, decide_eq_true]
    · rfl
    · rw [h1]; unfold trd; rw [if_neg h]; have := hc.1; grind
theorem lside_ln (hp : PB p q r s C) (ha : bz 12 a) (hb : bz 12 b) (hc : bz 17 c) (h : Q (.int (sg1 (a * p + b * r + c) (a * q + b * s) C))) : F__law_side [ln a b c, pn p q r s C] Q := by
  obtain ⟨hC, M, P, R, hm, hm1, hm2, hm3, bp, bq, br, bs, bC⟩ := hp
  have C0 : 0 ≤ C := by have := hC.1; grind
  unfold F__law_side
  placed_of0
  rw [pn_eq]
  unfold F__law_value
  have key : ∀ c', bz (R + 1) c' → 0 ≤ c' → (c' = C ∨ q = 0 ∧ s = 0) → F__law_sign [rt (a * p + b * r + c) (a * q + b * s) c'] Q := by
    intro c' bc' c0 hc'
    refine sp__law_sign c0 (ka := 2 * M + 200) (kb := 2 * P + 100) (bz_mono (bz_add (bz_add (bz_mul ha bp) (bz_mul hb br)) hc) (by omega)) (bz_mono (bz_add (bz_mul ha bq) (bz_mul hb bs)) (by omega)) bc' (by omega) ?_
    rcases hc' with e | ⟨e1, e2⟩
    · rw [e]; exact h
    · rw [e1, e2, show a * 0 + b * 0 = 0 by grind, sg1_0] at h ⊢
      exact h
  placed_of0
  rw [num_trd hC]
  by_cases hq : q = 0
  · rw [decide_eq_true hq]
    placed_of1
    refine key _ (bz_trd1 bC) (trd_nonneg C0) ?_
    rcases trd_or s C with e | ⟨e, _⟩
    · exact .inl e
    · exact .inr ⟨hq, e⟩
  · rw [decide_eq_false hq]
    placed_of1
    refine key _ (bz_trd1 bC) (trd_nonneg C0) ?_
    unfold trd; rw [if_neg hq]; exact .inl rfl
theorem lside_ci (hp : PB p q r s C) (ha : bz 5 a) (hb : bz 5 b) (hc : bz 10 c) (h : Q (.int (sg1 (a * p + b * r + c + (p * p + r * r + (q * q + s * s) * C)) (a * q + b * s + 2 * (p * q + r * s)) C))) : F__law_side [ci a b c, pn p q r s C] Q := by
  obtain ⟨hC, M, P, R, hm, hm1, hm2, hm3, bp, bq, br, bs, bC⟩ := hp
  have C0 : 0 ≤ C := by have := hC.1; grind
  unfold F__law_side
  placed_of0
  rw [pn_eq]
  unfold F__law_value
  have key : ∀ c', bz (R + 1) c' → 0 ≤ c' → (c' = C ∨ q = 0 ∧ s = 0) → F__law_sign [rt (a * p + b * r + c + (p * p + r * r + (q * q + s * s) * c')) (a * q + b * s + 2 * (p * q + r * s)) c'] Q := by
    intro c' bc' c0 hc'
    refine sp__law_sign c0 (ka := 6 * M + 4 * P + R + 260) (kb := 2 * M + 4 * P + 130) (bz_mono (bz_add (bz_add (bz_add (bz_mul ha bp) (bz_mul hb br)) hc) (bz_add (bz_add (bz_mul bp bp) (bz_mul br br)) (bz_mul (bz_add (bz_mul bq bq) (bz_mul bs bs)) bc'))) (by omega)) (bz_mono (bz_add (bz_add (bz_mul ha bq) (bz_mul hb bs)) (bz_mul bz_2 (bz_add (bz_mul bp bq) (bz_mul br bs)))) (by omega)) bc' (by omega) ?_
    rcases hc' with e | ⟨e1, e2⟩
    · rw [e]; exact h
    · rw [e1, e2, show a * 0 + b * 0 + 2 * (p * 0 + r * 0) = 0 by grind, sg1_0] at h ⊢
      rw [show (0 * 0 + 0 * 0) * C = 0 by grind] at h
      rw [show (0 * 0 + 0 * 0) * c' = 0 by grind]
      exact h
  placed_of0
  rw [num_trd hC]
  by_cases hq : q = 0
  · rw [decide_eq_true hq]
    kct_strs
    refine key _ (bz_trd1 bC) (trd_nonneg C0) ?_
    rcases trd_or s C with e | ⟨e, _⟩
    · exact .inl e
    · exact .inr ⟨hq, e⟩
  · rw [decide_eq_false hq]
    kct_strs
    refine key _ (bz_trd1 bC) (trd_nonneg C0) ?_
    unfold trd; rw [if_neg hq]; exact .inl rfl
/-! ### the same by the program -/
theorem sside_ln (hp : PB p q r s C) (ha : bz 12 a) (hb : bz 12 b) (hc : bz 17 c) (h : Q (.int (sg1 (a * p + b * r + c) (a * q + b * s) C))) : F_sign_at [ln a b c, pn p q r s C] Q := by
  obtain ⟨hC, M, P, R, hm, hm1, hm2, hm3, bp, bq, br, bs, bC⟩ := hp
  have v1 : bz (2 * M + 82) (p * a + r * b) := bz_mono (bz_add (bz_mul bp ha) (bz_mul br hb)) (by omega)
  have v2 : bz (2 * P + 82) (q * a + s * b) := bz_mono (bz_add (bz_mul bq ha) (bz_mul bs hb)) (by omega)
  unfold F_sign_at
  placed_of0
  unfold F_value_at
  placed_of0
  refine sp_by_fraction (m := R) (k := M + P + 81) (l := 12) hC bC (bz_mono bp (by omega)) (bz_mono bq (by omega)) ha (by omega) (by omega) ?_
  placed_of0
  refine sp_by_fraction (m := R) (k := M + P + 81) (l := 12) hC bC (bz_mono br (by omega)) (bz_mono bs (by omega)) hb (by omega) (by omega) ?_
  placed_of0
  refine sp_added_root (m := R) (k := M + P + 93) hC bC (bz_mono (bz_mul bp ha) (by omega)) (bz_mono (bz_mul bq ha) (by omega)) (bz_mono (bz_mul br hb) (by omega)) (bz_mono (bz_mul bs hb) (by omega)) (by omega) (by omega) ?_
  placed_of0
  refine sp_plain ?_
  rw [← nrm_0 c C]
  placed_of0
  refine sp_added_root (m := R) (k := 2 * M + 2 * P + 100) hC bC (bz_mono v1 (by omega)) (bz_mono v2 (by omega)) (bz_mono hc (by omega)) (bz_mono bz_0 (by omega)) (by omega) (by omega) ?_
  placed_of0
  rw [nrm_eq]
  refine sp_sign_of_root (ka := 2 * M + 110) (kb := 2 * P + 90) (kc := R + 1) (bz_mono (bz_add v1 hc) (by omega)) (bz_mono (bz_add v2 bz_0) (by omega)) (bz_trd1 bC) (by omega) ?_
  rw [sg1_trd, show p * a + r * b + c = a * p + b * r + c by grind, show q * a + s * b + 0 = a * q + b * s by grind]
  exact h
theorem sside_ci (hp : PB p q r s C) (ha : bz 5 a) (hb : bz 5 b) (hc : bz 10 c) (h : Q (.int (sg1 (a * p + b * r + c + (p * p + r * r + (q * q + s * s) * C)) (a * q + b * s + 2 * (p * q + r * s)) C))) : F_sign_at [ci a b c, pn p q r s C] Q := by
  obtain ⟨hC, M, P, R, hm, hm1, hm2, hm3, bp, bq, br, bs, bC⟩ := hp
  have v1 : bz (2 * M + 82) (p * a + r * b) := bz_mono (bz_add (bz_mul bp ha) (bz_mul br hb)) (by omega)
  have v2 : bz (2 * P + 82) (q * a + s * b) := bz_mono (bz_add (bz_mul bq ha) (bz_mul bs hb)) (by omega)
  have v3 : bz (2 * M + 110) (p * a + r * b + c) := bz_mono (bz_add v1 hc) (by omega)
  have v4 : bz (2 * P + 90) (q * a + s * b + 0) := bz_mono (bz_add v2 bz_0) (by omega)
  have w1 : bz (2 * M + 2 * P + R + 1) (p * p + q * q * C) := bz_mono (bz_add (bz_mul bp bp) (bz_mul (bz_mul bq bq) bC)) (by omega)
  have w2 : bz (2 * M + 2 * P + 1) (p * q + q * p) := bz_mono (bz_add (bz_mul bp bq) (bz_mul bq bp)) (by omega)
  have w3 : bz (2 * M + 2 * P + R + 163) (r * r + s * s * C) := bz_mono (bz_add (bz_mul br br) (bz_mul (bz_mul bs bs) bC)) (by omega)
  have w4 : bz (2 * M + 2 * P + 163) (r * s + s * r) := bz_mono (bz_add (bz_mul br bs) (bz_mul bs br)) (by omega)
  unfold F_sign_at
  placed_of0
  unfold F_value_at
  placed_of0
  refine sp_by_fraction (m := R) (k := M + P + 81) (l := 5) hC bC (bz_mono bp (by omega)) (bz_mono bq (by omega)) ha (by omega) (by omega) ?_
  placed_of0
  refine sp_by_fraction (m := R) (k := M + P + 81) (l := 5) hC bC (bz_mono br (by omega)) (bz_mono bs (by omega)) hb (by omega) (by omega) ?_
  placed_of0
  refine sp_added_root (m := R) (k := M + P + 93) hC bC (bz_mono (bz_mul bp ha) (by omega)) (bz_mono (bz_mul bq ha) (by omega)) (bz_mono (bz_mul br hb) (by omega)) (bz_mono (bz_mul bs hb) (by omega)) (by omega) (by omega) ?_
  placed_of0
  refine sp_plain ?_
  rw [← nrm_0 c C]
  placed_of0
  refine sp_added_root (m := R) (k := 2 * M + 2 * P + 100) hC bC (bz_mono v1 (by omega)) (bz_mono v2 (by omega)) (bz_mono hc (by omega)) (bz_mono bz_0 (by omega)) (by omega) (by omega) ?_
  placed_of0
  refine sp_times_root (m := R) (k := M + P + 81) (l := M + P + 81) hC bC (bz_mono bp (by omega)) (bz_mono bq (by omega)) (bz_mono bp (by omega)) (bz_mono bq (by omega)) (by omega) (by omega) ?_
  placed_of0
  refine sp_times_root (m := R) (k := M + P + 81) (l := M + P + 81) hC bC (bz_mono br (by omega)) (bz_mono bs (by omega)) (bz_mono br (by omega)) (bz_mono bs (by omega)) (by omega) (by omega) ?_
  placed_of0
  refine sp_added_root (m := R) (k := 2 * M + 2 * P + R + 163) hC bC (bz_mono w1 (by omega)) (bz_mono w2 (by omega)) (bz_mono w3 (by omega)) (bz_mono w4 (by omega)) (by omega) (by omega) ?_
  placed_of0
  refine sp_added_root (m := R) (k := 4 * M + 4 * P + 2 * R + 180) hC bC (bz_mono v3 (by omega)) (bz_mono v4 (by omega)) (bz_mono (bz_add w1 w3) (by omega)) (bz_mono (bz_add w2 w4) (by omega)) (by omega) (by omega) ?_
  placed_of0
  rw [nrm_eq]
  have e1 : p * a + r * b + c + (p * p + q * q * C + (r * r + s * s * C)) = a * p + b * r + c + (p * p + r * r + (q * q + s * s) * C) := by grind
  have e2 : q * a + s * b + 0 + (p * q + q * p + (r * s + s * r)) = a * q + b * s + 2 * (p * q + r * s) := by grind
  rw [e1, e2]
  refine sp_sign_of_root (ka := 6 * M + 4 * P + R + 270) (kb := 2 * M + 4 * P + 170) (kc := R + 1) ?_ ?_ (bz_trd1 bC) (by omega) ?_
  · exact bz_mono (bz_add (bz_add (bz_add (bz_mul ha bp) (bz_mul hb br)) hc) (bz_add (bz_add (bz_mul bp bp) (bz_mul br br)) (bz_mul (bz_add (bz_mul bq bq) (bz_mul bs bs)) bC))) (by omega)
  · exact bz_mono (bz_add (bz_add (bz_mul ha bq) (bz_mul hb bs)) (bz_mul bz_2 (bz_add (bz_mul bp bq) (bz_mul br bs)))) (by omega)
  rw [sg1_trd]
  exact h
end
local macro_rules | `(tactic| dl_puts) => `(tactic| with_reducible exact bz_4)

/-! ### where curves meet -/
def OnL (a b c p q r s : Rat) : Prop := a * p + b * r + c = 0 ∧ a * q + b * s = 0
def OnC (a b c p q r s C : Rat) : Prop := a * p + b * r + c + (p * p + r * r + (q * q + s * s) * C) = 0 ∧ a * q + b * s + 2 * (p * q + r * s) = 0
def Lt (p q r s p' q' r' s' C : Rat) : Prop := val p q C < val p' q' C ∨ (p = p' ∧ q = q') ∧ val r s C < val r' s' C
def dsc (a b c d e f : Rat) : Rat := (-d / 2 * (-d / 2) + -e / 2 * (-e / 2) - f) * (a * a + b * b) - (a * (-d / 2) + b * (-e / 2) + c) * (a * (-d / 2) + b * (-e / 2) + c)
section
variable {k l n ka kb kc kd ke kf : Nat} {a b c d e f g m p q r s t u v x y z C X Y : Rat} {Q : D → Prop}
theorem sp_is_upright (h : Q (.bool (decide (b = 0)))) : F_is_upright [ln a b c] Q := by
  unfold F_is_upright
  placed_of0
  rw [dr_ne0]
  exact h
theorem is_upright_ci (h : Q (.bool false)) : F_is_upright [ci a b c] Q := by
  unfold F_is_upright
  placed_of0
  exact h
theorem sub_up (b0 : b = 0) (a1 : a = 1) : e * e - 4 * (1 * (-c * -c + d * -c + f)) = 4 * dsc a b c d e f := by
  subst b0 a1
  unfold dsc
  grind
theorem dsc_m {M N : Rat} (b0 : b ≠ 0) (hm : M = -a / b) (hn : N = -c / b) : ((2 * (M * N) + d + e * M) * (2 * (M * N) + d + e * M) - 4 * ((1 + M * M) * (N * N + e * N + f))) * (b * b) = 4 * dsc a b c d e f := by
  have h1 : a = -(M * b) := by rw [hm]; have := Rat.div_mul_cancel (a := -a) b0; grind
  have h2 : c = -(N * b) := by rw [hn]; have := Rat.div_mul_cancel (a := -c) b0; grind
  unfold dsc
  rw [h1, h2]
  clear hm hn h1 h2
  grind
theorem bb_pos (b0 : b ≠ 0) : 0 < b * b := rsq_pos b0
theorem mul_pos_iff {x y : Rat} (h : 0 < y) : (0 < x ↔ 0 < x * y) := by
  constructor
  · intro z; exact Rat.mul_pos z h
  · intro z
    refine Classical.byContradiction fun w => ?_
    have := Rat.mul_nonneg (a := -x) (b := y) (by grind) (by grind)
    grind
theorem sgn_of_mul {x y z : Rat} (h : 0 < y) (e : x * y = 4 * z) : (x < 0 ↔ z < 0) ∧ (x = 0 ↔ z = 0) ∧ (0 < x ↔ 0 < z) := by
  have h1 := mul_pos_iff (x := x) h
  have h2 := mul_pos_iff (x := -x) h
  refine ⟨?_, ?_, ?_⟩
  · constructor
    · intro w; have := h2.mp (by grind); grind
    · intro w; have := h2.mpr (by grind); grind
  · constructor
    · intro w; rw [w] at e; grind
    · intro w; rw [w] at e
      rcases Rat.mul_eq_zero.mp (show x * y = 0 by grind) with h | h <;> grind
  · constructor
    · intro w; have := h1.mp w; grind
    · intro w; have := h1.mpr (by grind); grind
end

section
variable {k l n ka kb kc kd ke kf : Nat} {a b c d e f g m p q r s t u v x y z C X Y M N : Rat} {Q : D → Prop}
theorem on_l (b0 : b ≠ 0) (hm : M = -a / b) (hn : N = -c / b) : OnL a b c x y (x * M + N) (y * M) := by
  have h1 : a = -(M * b) := by rw [hm]; have := Rat.div_mul_cancel (a := -a) b0; grind
  have h2 : c = -(N * b) := by rw [hn]; have := Rat.div_mul_cancel (a := -c) b0; grind
  unfold OnL
  rw [h1, h2]
  clear hm hn h1 h2
  constructor <;> grind
theorem on_c (e1 : (1 + M * M) * (x * x + y * y * C) + (2 * (M * N) + d + e * M) * x + (N * N + e * N + f) = 0) (f1 : (2 * (1 + M * M) * x + (2 * (M * N) + d + e * M)) * y = 0) : OnC d e f x y (x * M + N) (y * M) C := by
  unfold OnC
  constructor <;> grind
theorem pb_1 {A B R : Nat} (hC : Nsq C) (h1 : bz A x) (h2 : bz B y) (h3 : bz R C) (h4 : bz (A + 56) u) (h5 : bz (B + 25) v) (hk : 16 * A + 12 * B + 3 * R ≤ 6000 ∧ A ≤ 400 ∧ B ≤ 100 ∧ R ≤ 400) : PB x y u v C := ⟨hC, A, B, R, hk.1, hk.2.1, hk.2.2.1, hk.2.2.2, h1, h2, h4, h5, h3⟩
theorem one_pos (M : Rat) : 1 + M * M ≠ 0 := by
  have := rsq_nonneg M
  grind
theorem line_circle_ok (hab : b = 0 → a = 1) (ha : bz 12 a) (hb : bz 12 b) (hc : bz 17 c) (hd : bz 5 d) (he : bz 5 e) (hf : bz 10 f)
    (h0 : dsc a b c d e f < 0 → Q (.list []))
    (h1 : dsc a b c d e f = 0 → ∀ p r, PB p 0 r 0 2 → OnL a b c p 0 r 0 → OnC d e f p 0 r 0 2 → Q (.list [pn p 0 r 0 2]))
    (h2 : 0 < dsc a b c d e f → ∀ p q r s p' q' r' s' C, PB p q r s C → PB p' q' r' s' C → OnL a b c p q r s → OnL a b c p' q' r' s' → OnC d e f p q r s C → OnC d e f p' q' r' s' C → Lt p q r s p' q' r' s' C → Q (.list [pn p q r s C, pn p' q' r' s' C])) : F_of_line_and_circle [ln a b c, ci d e f] Q := by
  unfold F_of_line_and_circle
  placed_of0
  refine sp_is_upright ?_
  by_cases b0 : b = 0
  · rw [decide_eq_true b0]
    have a1 := hab b0
    have es := sub_up (c := c) (d := d) (e := e) (f := f) b0 a1
    have w1 : bz 34 (-c * -c) := bz_mul (bz_neg hc) (bz_neg hc)
    have w2 : bz 22 (d * -c) := bz_mul hd (bz_neg hc)
    have w3 : bz 70 (-c * -c + d * -c + f) := bz_mono (bz_add (bz_add w1 w2) hf) (by decide)
    kct_strs
    refine sp_sum3 w1 w2 hf (by decide) ?_
    kct_strs
    refine both_roots_ok (ka := 1) (kb := 5) (kc := 70) (show (1 : Rat) ≠ 0 by decide) bz_1 he w3 (by decide) (fun z => ?_) (fun z bx => ?_) (fun z A B R m1 p1 m2 p2 C hk hC bC q1 q2 q3 q4 hT => ?_)
    · kct_strs
      exact h0 (by grind)
    · kct_strs
      refine h1 (by grind) (-c) (-e / (2 * 1)) (pb_1 (A := 30) (B := 1) (R := 2) nsq_2 (bz_mono (bz_neg hc) (by decide)) bz_0 bz_2 (bz_mono bx (by decide)) (bz_mono bz_0 (by decide)) (by decide)) ?_ ?_
      · unfold OnL; rw [a1, b0]; constructor <;> grind
      · unfold OnC
        have e2 : -e / (2 * 1) * 2 = -e := by have := Rat.div_mul_cancel (a := -e) (show (2 * 1 : Rat) ≠ 0 by grind); grind
        constructor
        · generalize -e / (2 * 1) = h at *
          grind
        · grind
    · kct_strs
      have hl : ∀ h w : Rat, OnL a b c (-c) 0 h w := fun h w => by unfold OnL; rw [a1, b0]; constructor <;> grind
      have hc' : ∀ h w : Rat, 1 * (h * h + w * w * C) + e * h + (-c * -c + d * -c + f) = 0 → (2 * 1 * h + e) * w = 0 → OnC d e f (-c) 0 h w C := fun h w z1 z2 => by unfold OnC; constructor <;> grind
      refine h2 (by grind) (-c) 0 m1 p1 (-c) 0 m2 p2 C (pb_1 (A := 100) (B := 4) (R := 90) hC (bz_mono (bz_neg hc) (by decide)) (bz_mono bz_0 (by decide)) (bz_mono bC (by omega)) (bz_mono q1 (by omega)) (bz_mono q2 (by omega)) (by decide)) (pb_1 (A := 100) (B := 4) (R := 90) hC (bz_mono (bz_neg hc) (by decide)) (bz_mono bz_0 (by decide)) (bz_mono bC (by omega)) (bz_mono q3 (by omega)) (bz_mono q4 (by omega)) (by decide)) (hl _ _) (hl _ _) (hc' _ _ hT.e1 hT.f1) (hc' _ _ hT.e2 hT.f2) (.inr ⟨⟨rfl, rfl⟩, hT.lt⟩)
  · rw [decide_eq_false b0]
    have bM : bz 24 (-a / b) := bz_over (bz_neg ha) hb b0
    have bN : bz 29 (-c / b) := bz_over (bz_neg hc) hb b0
    kct_strs
    obtain ⟨M, eM⟩ : ∃ M, M = -a / b := ⟨_, rfl⟩
    obtain ⟨N, eN⟩ : ∃ N, N = -c / b := ⟨_, rfl⟩
    have es := dsc_m (d := d) (e := e) (f := f) b0 eM eN
    rw [← eM] at bM ⊢
    rw [← eN] at bN ⊢
    have w1 : bz 55 (2 * (M * N)) := bz_mul bz_2 (bz_mul bM bN)
    have w2 : bz 29 (e * M) := bz_mul he bM
    have w3 : bz 91 (2 * (M * N) + d + e * M) := bz_add (bz_add w1 hd) w2
    have w4 : bz 58 (N * N) := bz_mul bN bN
    have w5 : bz 34 (e * N) := bz_mul he bN
    have w6 : bz 104 (N * N + e * N + f) := bz_add (bz_add w4 w5) hf
    have w7 : bz 50 (1 + M * M) := bz_add bz_1 (bz_mul bM bM)
    kct_strs
    refine sp_sum3 w1 hd w2 (by decide) ?_
    kct_strs
    refine sp_sum3 w4 w5 hf (by decide) ?_
    kct_strs
    obtain ⟨z0, z1, z2⟩ := sgn_of_mul (bb_pos b0) es
    refine both_roots_ok (ka := 50) (kb := 91) (kc := 104) (one_pos M) w7 w3 w6 (by decide) (fun z => ?_) (fun z bx => ?_) (fun z A B R m1 p1 m2 p2 C hk hC bC q1 q2 q3 q4 hT => ?_)
    · kct_strs
      exact h0 (z0.mp z)
    · placed_of0
      refine sp_by_fraction (m := 2) (k := 143) (l := 24) nsq_2 bz_2 bx (bz_mono bz_0 (by decide)) bM (by decide) (by decide) ?_
      placed_of0
      refine sp_plain ?_
      rw [← nrm_0 N 2]
      placed_of0
      refine sp_added_root (m := 2) (k := 170) nsq_2 bz_2 (bz_mono (bz_mul bx bM) (by decide)) (bz_mono (bz_mul bz_0 bM) (by decide)) (bz_mono bN (by decide)) (bz_mono bz_0 (by decide)) (by decide) (by decide) ?_
      placed_of0
      have e0 : (0 : Rat) * M + 0 = 0 := by grind
      have e3 : (0 : Rat) * M = 0 := by grind
      obtain ⟨x, ex⟩ : ∃ x, x = -(2 * (M * N) + d + e * M) / (2 * (1 + M * M)) := ⟨_, rfl⟩
      have ef : x * (2 * (1 + M * M)) = -(2 * (M * N) + d + e * M) := by rw [ex]; exact Rat.div_mul_cancel (by have := one_pos M; grind)
      rw [← ex] at bx ⊢
      rw [e0]
      have c1 := on_l (x := x) (y := 0) b0 eM eN
      have c2 : OnC d e f x 0 (x * M + N) (0 * M) 2 := on_c (by
        have f1 : (1 + M * M) * ((1 + M * M) * (x * x + 0 * 0 * 2) + (2 * (M * N) + d + e * M) * x + (N * N + e * N + f)) = 0 := by grind
        rcases Rat.mul_eq_zero.mp f1 with w | w
        · exact (one_pos M w).elim
        · exact w) (by grind)
      rw [e3] at c1 c2
      exact h1 (z1.mp z) x (x * M + N) (pb_1 (A := 143) (B := 1) (R := 2) nsq_2 bx bz_0 bz_2 (bz_mono (bz_add (bz_mul bx bM) bN) (by decide)) (bz_mono bz_0 (by decide)) (by decide)) c1 c2
    · placed_of0
      have hA : A ≤ 368 ∧ B ≤ 53 ∧ R ≤ 340 ∧ 16 * A + 12 * B + 3 * R ≤ 6000 := by omega
      refine sp_by_fraction (m := R) (k := A + B) (l := 24) hC bC (bz_mono q1 (by omega)) (bz_mono q2 (by omega)) bM (by omega) (by omega) ?_
      placed_of0
      refine sp_plain ?_
      rw [← nrm_0 N C]
      placed_of0
      refine sp_added_root (m := R) (k := A + B + 30) hC bC (bz_mono (bz_mul q1 bM) (by omega)) (bz_mono (bz_mul q2 bM) (by omega)) (bz_mono bN (by omega)) (bz_mono bz_0 (by omega)) (by omega) (by omega) ?_
      placed_of0
      refine sp_by_fraction (m := R) (k := A + B) (l := 24) hC bC (bz_mono q3 (by omega)) (bz_mono q4 (by omega)) bM (by omega) (by omega) ?_
      placed_of0
      refine sp_plain ?_
      rw [← nrm_0 N C]
      placed_of0
      refine sp_added_root (m := R) (k := A + B + 30) hC bC (bz_mono (bz_mul q3 bM) (by omega)) (bz_mono (bz_mul q4 bM) (by omega)) (bz_mono bN (by omega)) (bz_mono bz_0 (by omega)) (by omega) (by omega) ?_
      placed_of0
      rw [show p1 * M + 0 = p1 * M by grind, show p2 * M + 0 = p2 * M by grind]
      exact h2 (z2.mp z) m1 p1 (m1 * M + N) (p1 * M) m2 p2 (m2 * M + N) (p2 * M) C
        (pb_1 hC q1 q2 bC (bz_mono (bz_add (bz_mul q1 bM) bN) (by omega)) (bz_mono (bz_mul q2 bM) (by omega)) (by omega))
        (pb_1 hC q3 q4 bC (bz_mono (bz_add (bz_mul q3 bM) bN) (by omega)) (bz_mono (bz_mul q4 bM) (by omega)) (by omega))
        (on_l b0 eM eN) (on_l b0 eM eN) (on_c hT.e1 hT.f1) (on_c hT.e2 hT.f2) (.inl hT.lt)
end

section
variable {k l n ka kb kc kd ke kf : Nat} {a b c d e f g m p q r s t u v x y z p' q' r' s' C X Y M N : Rat} {Q : D → Prop}
theorem of_lines_ok (ha : bz 5 a) (hb : bz 5 b) (hc : bz 6 c) (hd : bz 5 d) (he : bz 5 e) (hf : bz 6 f) (h0 : a * e - b * d = 0 → Q (.list []))
    (h1 : a * e - b * d ≠ 0 → ∀ p r, PB p 0 r 0 2 → OnL a b c p 0 r 0 → OnL d e f p 0 r 0 → Q (.list [pn p 0 r 0 2])) : F_of_lines [ln a b c, ln d e f] Q := by
  unfold F_of_lines
  placed_of1
  rw [dr_ne0]
  by_cases l0 : a * e - b * d = 0
  · rw [decide_eq_true l0]
    placed_of0
    exact h0 l0
  · rw [decide_eq_false l0]
    have bX : bz 44 ((b * f - c * e) / (a * e - b * d)) := bz_mono (bz_over (k := 23) (l := 21) (bz_mono (by dl_puts) (by omega)) (bz_mono (by dl_puts) (by omega)) l0) (by decide)
    have bY : bz 44 ((c * d - a * f) / (a * e - b * d)) := bz_mono (bz_over (k := 23) (l := 21) (bz_mono (by dl_puts) (by omega)) (bz_mono (by dl_puts) (by omega)) l0) (by decide)
    placed_of1
    have eX : (b * f - c * e) / (a * e - b * d) * (a * e - b * d) = b * f - c * e := Rat.div_mul_cancel l0
    have eY : (c * d - a * f) / (a * e - b * d) * (a * e - b * d) = c * d - a * f := Rat.div_mul_cancel l0
    generalize (b * f - c * e) / (a * e - b * d) = x at *
    generalize (c * d - a * f) / (a * e - b * d) = y at *
    refine h1 l0 x y (pb_1 (A := 44) (B := 1) (R := 2) nsq_2 bX bz_0 bz_2 (bz_mono bY (by decide)) (bz_mono bz_0 (by decide)) (by decide)) ?_ ?_
    · refine ⟨?_, by grind⟩
      have z : (a * x + b * y + c) * (a * e - b * d) = 0 := by
        rw [show (a * x + b * y + c) * (a * e - b * d) = a * (x * (a * e - b * d)) + b * (y * (a * e - b * d)) + c * (a * e - b * d) by grind, eX, eY]
        grind
      rcases Rat.mul_eq_zero.mp z with z | z
      · exact z
      · exact (l0 z).elim
    · refine ⟨?_, by grind⟩
      have z : (d * x + e * y + f) * (a * e - b * d) = 0 := by
        rw [show (d * x + e * y + f) * (a * e - b * d) = d * (x * (a * e - b * d)) + e * (y * (a * e - b * d)) + f * (a * e - b * d) by grind, eX, eY]
        grind
      rcases Rat.mul_eq_zero.mp z with z | z
      · exact z
      · exact (l0 z).elim
theorem same_power_ok (hA : bz 6 (a - d)) (hB : bz 6 (b - e)) (hC : bz 11 (c - f)) (ha : bz 5 a) (hb : bz 5 b) (hc : bz 10 c) (hd : bz 5 d) (he : bz 5 e) (hf : bz 10 f) (h0 : a - d = 0 ∧ b - e = 0 → Q .none)
    (h1 : ∀ g, g = fst' (a - d) (b - e) → g ≠ 0 → Q (ln ((a - d) / g) ((b - e) / g) ((c - f) / g))) : F_same_power [ci a b c, ci d e f] Q := by
  unfold F_same_power
  placed_of1
  rw [dr_ne0]
  by_cases a0 : a - d = 0
  · rw [decide_eq_true a0]
    placed_of0
    rw [dr_ne0]
    by_cases b0 : b - e = 0
    · rw [decide_eq_true b0]
      placed_of0
      exact h0 ⟨a0, b0⟩
    · rw [decide_eq_false b0]
      placed_of1
      exact h1 _ (by unfold fst'; rw [if_pos a0]) b0
  · rw [decide_eq_false a0]
    placed_of0
    rw [dr_ne0, decide_eq_false a0]
    placed_of1
    exact h1 _ (by unfold fst'; rw [if_neg a0]) a0
/-! ### the order of points -/
theorem cmp_pn (hC : Nsq C) (h1 : bz ka p) (h2 : bz kb q) (h3 : bz kc C) (h4 : bz ka x) (h5 : bz kb y) (hk : 12 * ka + 10 * kb + 5 * kc < 7690) (h : Q (.int (sr (val p q C - val x y C)))) : F_compare [nrm p q C, nrm x y C] Q := by
  have C0 : 0 ≤ C := by have := hC.1; grind
  rw [nrm_eq, nrm_eq]
  refine sp_compare h1 h2 (bz_trd1 h3) h4 h5 (bz_trd1 h3) (by omega) ?_
  rw [cmp_val (trd_nonneg C0) (trd_nonneg C0), val_trd, val_trd]
  exact h
theorem lcmp_pn (hC : Nsq C) (h1 : bz ka p) (h2 : bz kb q) (h3 : bz kc C) (h4 : bz ka x) (h5 : bz kb y) (hk : 12 * ka + 10 * kb + 5 * kc < 7690) (h : Q (.int (sr (val p q C - val x y C)))) : F__law_compare [nrm p q C, nrm x y C] Q := by
  have C0 : 0 ≤ C := by have := hC.1; grind
  rw [nrm_eq, nrm_eq]
  refine sp__law_compare (trd_nonneg C0) (trd_nonneg C0) h1 h2 (bz_trd1 h3) h4 h5 (bz_trd1 h3) (by omega) ?_
  rw [cmp_val (trd_nonneg C0) (trd_nonneg C0), val_trd, val_trd]
  exact h
theorem pb_both (h : PB p q r s C) (h' : PB p' q' r' s' C) : Nsq C ∧ ∃ M P R : Nat, bz M p ∧ bz P q ∧ bz M r ∧ bz P s ∧ bz M p' ∧ bz P q' ∧ bz M r' ∧ bz P s' ∧ bz R C ∧ 12 * M + 10 * P + 5 * R < 7690 := by
  obtain ⟨hC, M, P, R, hm, hm1, hm2, hm3, bp, bq, br, bs, bC⟩ := h
  obtain ⟨_, M', P', R', hm', hm1', hm2', hm3', bp', bq', br', bs', bC'⟩ := h'
  refine ⟨hC, max M M' + 56, max P P' + 25, min R R', ?_⟩
  refine ⟨bz_mono bp (by omega), bz_mono bq (by omega), bz_mono br (by omega), bz_mono bs (by omega), bz_mono bp' (by omega), bz_mono bq' (by omega), bz_mono br' (by omega), bz_mono bs' (by omega), ?_, ?_⟩
  · rcases Nat.le_total R R' with h | h
    · rw [Nat.min_eq_left h]; exact bC
    · rw [Nat.min_eq_right h]; exact bC'
  · omega
theorem cmp_points_lt (hp : PB p q r s C) (hp' : PB p' q' r' s' C) (hl : Lt p q r s p' q' r' s' C) (h : Q (.int (-1))) : F_compare_points [pn p q r s C, pn p' q' r' s' C] Q := by
  obtain ⟨hC, M, P, R, b1, b2, b3, b4, b5, b6, b7, b8, b9, hk⟩ := pb_both hp hp'
  unfold F_compare_points
  placed_of0
  refine cmp_pn hC b1 b2 b9 b5 b6 hk ?_
  rcases hl with hl | ⟨⟨e1, e2⟩, hl⟩
  · rw [sr_neg (by grind)]
    placed_of0
    exact h
  · rw [e1, e2, show val p' q' C - val p' q' C = 0 by grind, sr_zero]
    placed_of0
    refine cmp_pn hC b3 b4 b9 b7 b8 hk ?_
    rw [sr_neg (by grind)]
    placed_of0
    exact h
theorem cmp_points_gt (hp : PB p q r s C) (hp' : PB p' q' r' s' C) (hl : Lt p q r s p' q' r' s' C) (h : Q (.int 1)) : F_compare_points [pn p' q' r' s' C, pn p q r s C] Q := by
  obtain ⟨hC, M, P, R, b1, b2, b3, b4, b5, b6, b7, b8, b9, hk⟩ := pb_both hp hp'
  unfold F_compare_points
  placed_of0
  refine cmp_pn hC b5 b6 b9 b1 b2 hk ?_
  rcases hl with hl | ⟨⟨e1, e2⟩, hl⟩
  · rw [sr_pos (by grind)]
    placed_of0
    exact h
  · rw [e1, e2, show val p' q' C - val p' q' C = 0 by grind, sr_zero]
    placed_of0
    refine cmp_pn hC b7 b8 b9 b3 b4 hk ?_
    rw [sr_pos (by grind)]
    placed_of0
    exact h
theorem law_before_lt (hp : PB p q r s C) (hp' : PB p' q' r' s' C) (hl : Lt p q r s p' q' r' s' C) (h : Q (.int (-1))) : F__law_before [pn p q r s C, pn p' q' r' s' C] Q := by
  obtain ⟨hC, M, P, R, b1, b2, b3, b4, b5, b6, b7, b8, b9, hk⟩ := pb_both hp hp'
  unfold F__law_before
  placed_of0
  refine lcmp_pn hC b1 b2 b9 b5 b6 hk ?_
  rcases hl with hl | ⟨⟨e1, e2⟩, hl⟩
  · rw [sr_neg (by grind)]
    placed_of0
    exact h
  · rw [e1, e2, show val p' q' C - val p' q' C = 0 by grind, sr_zero]
    placed_of0
    refine lcmp_pn hC b3 b4 b9 b7 b8 hk ?_
    rw [sr_neg (by grind)]
    placed_of0
    exact h
theorem w_kIns {i : Nat} {ds : List D} {ρ ρ' : En} {nx : En → Prop} {n : Int} {d : D} (h1 : ds.length < 100000) (h2 : 0 ≤ n) (h3 : n ≤ 100000) (h : ρ.set i (.ow (ds.take n.toNat ++ [d] ++ ds.drop n.toNat)) = ρ') (q : nx ρ') : kIns i ds ρ nx [.int n, d] := by
  subst h
  exact ⟨h1, h2, h3, q⟩
theorem in_order_0 (h : Q (.list [])) : F_in_order [.list []] Q := by
  unfold F_in_order
  placed_of0
  exact h
theorem in_order_1 (h : Q (.list [pn p q r s C])) : F_in_order [.list [pn p q r s C]] Q := by
  unfold F_in_order
  placed_of0
  refine w_kIns (by decide) (by decide) (by decide) rfl ?_
  placed_of0
  exact h
theorem in_order_2 (hp : PB p q r s C) (hp' : PB p' q' r' s' C) (hl : Lt p q r s p' q' r' s' C) (h : Q (.list [pn p q r s C, pn p' q' r' s' C])) : F_in_order [.list [pn p q r s C, pn p' q' r' s' C]] Q := by
  unfold F_in_order
  placed_of0
  refine w_kIns (ρ' := [.va (.list [pn p q r s C, pn p' q' r' s' C]), .ow [pn p q r s C], .va (pn p q r s C), .va (.int 0), .no]) (by decide) (by decide) (by decide) rfl ?_
  placed_of0
  refine cmp_points_lt hp hp' hl ?_
  placed_of0
  refine w_kIns (ρ' := [.va (.list [pn p q r s C, pn p' q' r' s' C]), .ow [pn p q r s C, pn p' q' r' s' C], .va (pn p' q' r' s' C), .va (.int 1), .no]) (by simp) (by decide) (by decide) rfl ?_
  placed_of0
  exact h
end

/-! ### how many points, how circles stand -/
def rad (a b c : Rat) : Rat := -a / 2 * (-a / 2) + -b / 2 * (-b / 2) - c
def gap2 (a b d e : Rat) : Rat := (-a / 2 - -d / 2) * (-a / 2 - -d / 2) + (-b / 2 - -e / 2) * (-b / 2 - -e / 2)
def rst (a b c d e f : Rat) : Rat := gap2 a b d e - (rad a b c + rad d e f)
def dcc (a b c d e f : Rat) : Rat := rst a b c d e f * rst a b c d e f - 4 * (rad a b c * rad d e f)
def kindw (a b c d e f : Rat) : Str :=
  if dcc a b c d e f < 0 then "cross"
  else if 0 < rst a b c d e f then (if dcc a b c d e f = 0 then "touch" else "apart")
  else if dcc a b c d e f = 0 then "touch within"
  else if rad a b c - rad d e f < 0 then "within" else "round"
section
variable {k l n ka kb kc kd ke kf : Nat} {a b c d e f g m p q r s t u v x y z p' q' r' s' C X Y M N : Rat} {Q : D → Prop}
theorem div_m2 (a : Rat) : a / -2 = -a / 2 := by grind
theorem lmiddle_ok (ha : bz k a) (hb : bz k b) (hk : k < 3000) (h : Q (pt (-a / 2) (-b / 2))) : F__law_middle [ci a b c] Q := by
  unfold F__law_middle
  placed_of0
  rw [litm21]
  refine sp__law_over ha bz_m2 (by decide) (by omega) ?_
  placed_of0
  rw [litm21]
  refine sp__law_over hb bz_m2 (by decide) (by omega) ?_
  placed_of0
  rw [div_m2, div_m2]
  exact h
theorem lradius_ok (ha : bz k a) (hb : bz k b) (hc : bz k c) (hk : k < 900) (h : Q (dr (rad a b c))) : F__law_radius [ci a b c] Q := by
  have h2a : bz (k + 2) (-a / 2) := bz_over (bz_neg ha) bz_2 (by decide)
  have h2b : bz (k + 2) (-b / 2) := bz_over (bz_neg hb) bz_2 (by decide)
  unfold F__law_radius
  placed_of0
  refine lmiddle_ok ha hb (by omega) ?_
  kct_strs
  exact h
theorem lapart_ok (hx : bz k x) (hy : bz k y) (hu : bz k u) (hv : bz k v) (hk : k < 900) (h : Q (dr ((x - u) * (x - u) + (y - v) * (y - v)))) : F__law_apart [pt x y, pt u v] Q := by
  unfold F__law_apart
  kct_strs
  exact h
theorem lpoint_ok (h : Q (.tuple [rt x 0 0, rt y 0 0])) : F__law_point [dr x, dr y] Q := by
  unfold F__law_point
  placed_of0
  exact h
theorem lvalue_pl (ha : bz k a) (hb : bz k b) (hc : bz k c) (hx : bz k x) (hy : bz k y) (hk : k < 500) (h : Q (.tuple [dr (a * x + b * y + c), dr (a * 0 + b * 0), dr 0])) : F__law_value [ln a b c, .tuple [rt x 0 0, rt y 0 0]] Q := by
  unfold F__law_value
  kct_strs
  exact h
theorem many_ll (ha : bz k a) (hb : bz k b) (hd : bz k d) (he : bz k e) (hk : k < 500) (h : Q (.int (if a * e - b * d = 0 then 0 else 1))) : F__law_many [ln a b c, ln d e f] Q := by
  unfold F__law_many
  kct_strs
  rw [eqv_int]
  by_cases h0 : a * e - b * d = 0
  · rw [if_pos h0] at h
    rw [h0, show decide ((0 : Rat).num = 0) = true from rfl]
    placed_of0
    exact h
  · rw [if_neg h0] at h
    rw [decide_eq_false (num_ne h0)]
    placed_of0
    exact h
theorem many_lc (ha : bz 12 a) (hb : bz 12 b) (hc : bz 17 c) (hd : bz 5 d) (he : bz 5 e) (hf : bz 10 f) (h : Q (.int (1 + (dsc a b c d e f).num.sign))) : F__law_many [ln a b c, ci d e f] Q := by
  have h2a : bz 7 (-d / 2) := bz_over (bz_neg hd) bz_2 (by decide)
  have h2b : bz 7 (-e / 2) := bz_over (bz_neg he) bz_2 (by decide)
  have hr : bz 40 (rad d e f) := bz_mono (by unfold rad; dl_puts) (by decide)
  unfold F__law_many
  placed_of0
  refine lmiddle_ok (k := 5) hd he (by decide) ?_
  placed_of0
  refine lmiddle_ok (k := 5) hd he (by decide) ?_
  placed_of0
  refine lpoint_ok ?_
  placed_of0
  refine lvalue_pl (k := 17) (bz_mono ha (by decide)) (bz_mono hb (by decide)) (bz_mono hc (by decide)) (bz_mono h2a (by decide)) (bz_mono h2b (by decide)) (by decide) ?_
  kct_strs
  refine lradius_ok (k := 10) (bz_mono hd (by decide)) (bz_mono he (by decide)) hf (by decide) ?_
  kct_strs
  exact h
theorem many_cl (ha : bz 12 a) (hb : bz 12 b) (hc : bz 17 c) (hd : bz 5 d) (he : bz 5 e) (hf : bz 10 f) (h : Q (.int (1 + (dsc a b c d e f).num.sign))) : F__law_many [ci d e f, ln a b c] Q := by
  have h2a : bz 7 (-d / 2) := bz_over (bz_neg hd) bz_2 (by decide)
  have h2b : bz 7 (-e / 2) := bz_over (bz_neg he) bz_2 (by decide)
  have hr : bz 40 (rad d e f) := bz_mono (by unfold rad; dl_puts) (by decide)
  unfold F__law_many
  placed_of0
  refine lmiddle_ok (k := 5) hd he (by decide) ?_
  placed_of0
  refine lmiddle_ok (k := 5) hd he (by decide) ?_
  placed_of0
  refine lpoint_ok ?_
  placed_of0
  refine lvalue_pl (k := 17) (bz_mono ha (by decide)) (bz_mono hb (by decide)) (bz_mono hc (by decide)) (bz_mono h2a (by decide)) (bz_mono h2b (by decide)) (by decide) ?_
  kct_strs
  refine lradius_ok (k := 10) (bz_mono hd (by decide)) (bz_mono he (by decide)) hf (by decide) ?_
  kct_strs
  exact h
def cnt (z : Rat) : Int := if z < 0 then 2 else if z = 0 then 1 else 0
theorem many_cc (ha : bz 5 a) (hb : bz 5 b) (hc : bz 10 c) (hd : bz 5 d) (he : bz 5 e) (hf : bz 10 f) (h : Q (.int (cnt (dcc a b c d e f)))) : F__law_many [ci a b c, ci d e f] Q := by
  have h1 : bz 7 (-a / 2) := bz_over (bz_neg ha) bz_2 (by decide)
  have h2 : bz 7 (-b / 2) := bz_over (bz_neg hb) bz_2 (by decide)
  have h3 : bz 7 (-d / 2) := bz_over (bz_neg hd) bz_2 (by decide)
  have h4 : bz 7 (-e / 2) := bz_over (bz_neg he) bz_2 (by decide)
  have hr : bz 40 (rad a b c) := bz_mono (by unfold rad; dl_puts) (by decide)
  have hs' : bz 40 (rad d e f) := bz_mono (by unfold rad; dl_puts) (by decide)
  have hga : bz 61 (gap2 a b d e) := bz_mono (by unfold gap2; dl_puts) (by decide)
  have hre : bz 143 (rst a b c d e f) := bz_mono (by unfold rst; dl_puts) (by decide)
  unfold F__law_many
  placed_of0
  refine lmiddle_ok (k := 5) ha hb (by decide) ?_
  placed_of0
  refine lmiddle_ok (k := 5) hd he (by decide) ?_
  placed_of0
  refine lapart_ok h1 h2 h3 h4 (by decide) ?_
  rw [show (-a / 2 - -d / 2) * (-a / 2 - -d / 2) + (-b / 2 - -e / 2) * (-b / 2 - -e / 2) = gap2 a b d e from rfl]
  placed_of0
  refine lradius_ok (k := 10) (bz_mono ha (by decide)) (bz_mono hb (by decide)) hc (by decide) ?_
  placed_of0
  refine lradius_ok (k := 10) (bz_mono hd (by decide)) (bz_mono he (by decide)) hf (by decide) ?_
  kct_strs
  rw [show gap2 a b d e - (rad a b c + rad d e f) = rst a b c d e f from rfl]
  kct_strs
  rw [lit41]
  kct_strs
  rw [show rst a b c d e f * rst a b c d e f - 4 * (rad a b c * rad d e f) = dcc a b c d e f from rfl]
  rw [sgn_lt0]
  unfold cnt at h
  by_cases h0 : dcc a b c d e f < 0
  · rw [if_pos h0] at h
    rw [decide_eq_true h0]
    placed_of0
    exact h
  · rw [if_neg h0] at h
    rw [decide_eq_false h0]
    placed_of0
    rw [eqv_int, sgn_eq0]
    by_cases h0 : dcc a b c d e f = 0
    · rw [if_pos h0] at h
      rw [decide_eq_true h0]
      placed_of0
      exact h
    · rw [if_neg h0] at h
      rw [decide_eq_false h0]
      placed_of0
      exact h
theorem eqv_ci (a b c d e f : Rat) : PyData.eqv (ci a b c) (ci d e f) = decide (a = d ∧ b = e ∧ c = f) := by
  show (((1 : Int) == 1) && (PyData.eqv (dr a) (dr d) && (PyData.eqv (dr b) (dr e) && (PyData.eqv (dr c) (dr f) && true)))) = _
  rw [eqv_dr, eqv_dr, eqv_dr, Bool.and_true, Bool.decide_and, Bool.decide_and]
  rfl
theorem eqv_ln (a b c d e f : Rat) : PyData.eqv (ln a b c) (ln d e f) = decide (a = d ∧ b = e ∧ c = f) := by
  show (((0 : Int) == 0) && (PyData.eqv (dr a) (dr d) && (PyData.eqv (dr b) (dr e) && (PyData.eqv (dr c) (dr f) && true)))) = _
  rw [eqv_dr, eqv_dr, eqv_dr, Bool.and_true, Bool.decide_and, Bool.decide_and]
  rfl
theorem touch_same (h : Q (.str "same")) : F_touch_kind [ci a b c, ci a b c] Q := by
  unfold F_touch_kind
  placed_of0
  rw [eqv_ci, decide_eq_true ⟨rfl, rfl, rfl⟩]
  placed_of0
  exact h
theorem touch_ok (h0 : ¬ (a = d ∧ b = e ∧ c = f)) (ha : bz 5 a) (hb : bz 5 b) (hc : bz 10 c) (hd : bz 5 d) (he : bz 5 e) (hf : bz 10 f) (h : Q (.str (kindw a b c d e f))) : F_touch_kind [ci a b c, ci d e f] Q := by
  have h1 : bz 7 (-a / 2) := bz_over (bz_neg ha) bz_2 (by decide)
  have h2 : bz 7 (-b / 2) := bz_over (bz_neg hb) bz_2 (by decide)
  have h3 : bz 7 (-d / 2) := bz_over (bz_neg hd) bz_2 (by decide)
  have h4 : bz 7 (-e / 2) := bz_over (bz_neg he) bz_2 (by decide)
  have hr : bz 40 (rad a b c) := bz_mono (by unfold rad; dl_puts) (by decide)
  have hs' : bz 40 (rad d e f) := bz_mono (by unfold rad; dl_puts) (by decide)
  have hga : bz 61 (gap2 a b d e) := bz_mono (by unfold gap2; dl_puts) (by decide)
  have hre : bz 143 (rst a b c d e f) := bz_mono (by unfold rst; dl_puts) (by decide)
  unfold F_touch_kind
  placed_of0
  rw [eqv_ci, decide_eq_false h0]
  placed_of0
  refine middle_ok (k := 5) ha hb (by decide) ?_
  placed_of0
  refine middle_ok (k := 5) hd he (by decide) ?_
  kct_strs
  rw [show (-a / 2 - -d / 2) * (-a / 2 - -d / 2) + (-b / 2 - -e / 2) * (-b / 2 - -e / 2) = gap2 a b d e from rfl]
  refine radius_ok (k := 10) (bz_mono ha (by decide)) (bz_mono hb (by decide)) hc (by decide) ?_
  rw [show -a / 2 * (-a / 2) + -b / 2 * (-b / 2) - c = rad a b c from rfl]
  placed_of0
  refine radius_ok (k := 10) (bz_mono hd (by decide)) (bz_mono he (by decide)) hf (by decide) ?_
  rw [show -d / 2 * (-d / 2) + -e / 2 * (-e / 2) - f = rad d e f from rfl]
  kct_strs
  rw [show gap2 a b d e - (rad a b c + rad d e f) = rst a b c d e f from rfl]
  kct_strs
  rw [lit41]
  kct_strs
  rw [show rst a b c d e f * rst a b c d e f - 4 * (rad a b c * rad d e f) = dcc a b c d e f from rfl]
  rw [sgn_lt0]
  unfold kindw at h
  by_cases c0 : dcc a b c d e f < 0
  · rw [if_pos c0] at h
    rw [decide_eq_true c0]
    placed_of0
    exact h
  rw [if_neg c0] at h
  rw [decide_eq_false c0]
  kct_strs
  rw [sgn_gt0]
  by_cases c1 : 0 < rst a b c d e f
  · rw [if_pos c1] at h
    rw [decide_eq_true c1]
    kct_strs
    rw [eqv_int, sgn_eq0]
    by_cases c2 : dcc a b c d e f = 0
    · rw [if_pos c2] at h
      rw [decide_eq_true c2]
      placed_of0
      exact h
    · rw [if_neg c2] at h
      rw [decide_eq_false c2]
      placed_of0
      exact h
  rw [if_neg c1] at h
  rw [decide_eq_false c1]
  kct_strs
  rw [eqv_int, sgn_eq0]
  by_cases c2 : dcc a b c d e f = 0
  · rw [if_pos c2] at h
    rw [decide_eq_true c2]
    placed_of0
    exact h
  rw [if_neg c2] at h
  rw [decide_eq_false c2]
  kct_strs
  rw [sgn_lt0]
  by_cases c3 : rad a b c - rad d e f < 0
  · rw [if_pos c3] at h
    rw [decide_eq_true c3]
    placed_of0
    exact h
  · rw [if_neg c3] at h
    rw [decide_eq_false c3]
    placed_of0
    exact h
theorem lkind_ok (ha : bz 5 a) (hb : bz 5 b) (hc : bz 10 c) (hd : bz 5 d) (he : bz 5 e) (hf : bz 10 f) (h : Q (.str (kindw a b c d e f))) : F__law_kind [ci a b c, ci d e f] Q := by
  have h1 : bz 7 (-a / 2) := bz_over (bz_neg ha) bz_2 (by decide)
  have h2 : bz 7 (-b / 2) := bz_over (bz_neg hb) bz_2 (by decide)
  have h3 : bz 7 (-d / 2) := bz_over (bz_neg hd) bz_2 (by decide)
  have h4 : bz 7 (-e / 2) := bz_over (bz_neg he) bz_2 (by decide)
  have hr : bz 40 (rad a b c) := bz_mono (by unfold rad; dl_puts) (by decide)
  have hs' : bz 40 (rad d e f) := bz_mono (by unfold rad; dl_puts) (by decide)
  have hga : bz 61 (gap2 a b d e) := bz_mono (by unfold gap2; dl_puts) (by decide)
  unfold F__law_kind
  placed_of0
  refine lmiddle_ok (k := 5) ha hb (by decide) ?_
  placed_of0
  refine lmiddle_ok (k := 5) hd he (by decide) ?_
  placed_of0
  refine lapart_ok h1 h2 h3 h4 (by decide) ?_
  rw [show (-a / 2 - -d / 2) * (-a / 2 - -d / 2) + (-b / 2 - -e / 2) * (-b / 2 - -e / 2) = gap2 a b d e from rfl]
  placed_of0
  refine lradius_ok (k := 10) (bz_mono ha (by decide)) (bz_mono hb (by decide)) hc (by decide) ?_
  placed_of0
  refine lradius_ok (k := 10) (bz_mono hd (by decide)) (bz_mono he (by decide)) hf (by decide) ?_
  placed_of0
  refine many_cc ha hb hc hd he hf ?_
  kct_strs
  rw [show gap2 a b d e - (rad a b c + rad d e f) = rst a b c d e f from rfl]
  rw [eqv_int]
  unfold cnt
  unfold kindw at h
  by_cases c0 : dcc a b c d e f < 0
  · rw [if_pos c0] at h ⊢
    placed_of0
    exact h
  rw [if_neg c0] at h ⊢
  by_cases c2 : dcc a b c d e f = 0
  · rw [if_pos c2] at h ⊢
    rw [if_pos c2] at h
    placed_of0
    rw [sgn_gt0]
    by_cases c1 : 0 < rst a b c d e f
    · rw [if_pos c1] at h
      rw [decide_eq_true c1]
      placed_of0
      exact h
    · rw [if_neg c1] at h
      rw [decide_eq_false c1]
      placed_of0
      exact h
  · rw [if_neg c2] at h ⊢
    rw [if_neg c2] at h
    placed_of0
    rw [sgn_gt0]
    by_cases c1 : 0 < rst a b c d e f
    · rw [if_pos c1] at h
      rw [decide_eq_true c1]
      placed_of0
      exact h
    · rw [if_neg c1] at h
      rw [decide_eq_false c1]
      kct_strs
      rw [sgn_lt0]
      by_cases c3 : rad a b c - rad d e f < 0
      · rw [if_pos c3] at h
        rw [decide_eq_true c3]
        placed_of0
        exact h
      · rw [if_neg c3] at h
        rw [decide_eq_false c3]
        placed_of0
        exact h
end

/-! ### drawn curves -/
def Iz (B : Int) (q : Rat) : Prop := ∃ i : Int, q = (i : Rat) ∧ -B ≤ i ∧ i ≤ B
def LnOk (a b c : Rat) : Prop := (a = 1 ∨ a = 0 ∧ b = 1) ∧ bz 5 a ∧ bz 5 b ∧ bz 6 c
def CiOk (a b c : Rat) : Prop := Iz 24 a ∧ Iz 24 b ∧ Iz 1000 (4 * c) ∧ 0 < rad a b c
inductive Cv : D → Prop where
  | l {a b c : Rat} (h : LnOk a b c) : Cv (ln a b c)
  | c {a b c : Rat} (h : CiOk a b c) : Cv (ci a b c)
section
variable {k l n ka kb kc kd ke kf : Nat} {a b c d e f g m p q r s t u v x y z p' q' r' s' C X Y M N : Rat} {Q : D → Prop} {B B' : Int}
theorem dr_int (i : Int) : PyData.tuple [.int i, .int 1] = dr (i : Rat) := by
  unfold dr
  rw [Rat.num_intCast, Rat.den_intCast]
  rfl
theorem bz_int {i : Int} (h : sm k i) (hk : 1 ≤ k) : bz k (i : Rat) := by
  refine ⟨by rw [Rat.num_intCast]; exact h, ?_⟩
  rw [Rat.den_intCast]
  have := Nat.pow_le_pow_right (show 0 < 2 by decide) hk
  omega
theorem Iz.bz (h : Iz B q) (hB : B < (2 ^ k : Nat)) (hk : 1 ≤ k) : bz k q := by
  obtain ⟨i, e, h1, h2⟩ := h
  rw [e]
  exact bz_int (sm_of (by omega) (by omega)) hk
theorem Iz.sub (h : Iz B p) (h' : Iz B' q) : Iz (B + B') (p - q) := by
  obtain ⟨i, e, h1, h2⟩ := h
  obtain ⟨j, e', h1', h2'⟩ := h'
  exact ⟨i - j, by rw [e, e', Rat.intCast_sub], by omega, by omega⟩
theorem quarter (h : Iz B (4 * q)) (hB : B < (2 ^ k : Nat)) (hk : 3 ≤ k) : Pl.bz k q := by
  obtain ⟨i, e, h1, h2⟩ := h
  have e2 : q = Rat.divInt i 4 := by
    rw [Rat.divInt_eq_div, ← e]
    show q = 4 * q / ((4 : Int) : Rat)
    rw [show ((4 : Int) : Rat) = 4 from rfl]
    grind
  rw [e2]
  exact bz_div (by decide) (sm_of (by omega) (by omega)) (by
    have := Nat.pow_le_pow_right (show 0 < 2 by decide) hk
    exact sm_of (by omega) (by omega))
theorem CiOk.bs (h : CiOk a b c) : bz 5 a ∧ bz 5 b ∧ bz 10 c := ⟨h.1.bz (by decide) (by decide), h.2.1.bz (by decide) (by decide), quarter h.2.2.1 (by decide) (by decide)⟩
theorem half_int (i : Int) : Rat.divInt i 1 = ((2 * i : Int) : Rat) / 2 ∧ Rat.divInt i 2 = (i : Rat) / 2 := by
  refine ⟨?_, ?_⟩
  · rw [Rat.divInt_eq_div, Rat.intCast_mul]
    show (i : Rat) / ((1 : Int) : Rat) = _
    rw [show ((1 : Int) : Rat) = 1 from rfl, show ((2 : Int) : Rat) = 2 from rfl]
    grind
  · rw [Rat.divInt_eq_div]
    rfl
/-- a drawn small part: a half of a number -/
def Hf (B : Int) (q : Rat) : Prop := ∃ i : Int, q = (i : Rat) / 2 ∧ -B ≤ i ∧ i ≤ B
theorem small2_ok (h : ∀ p, bz 3 p → Hf 8 p → Q (dr p)) : F__law_small [wD] Q := by
  unfold F__law_small
  placed_of1
  refine next_ok (by decide) fun i i0 i1 => ?_
  placed_of1
  refine next_ok (by decide) fun j j0 j1 => ?_
  placed_of1
  refine sp__law_frac (k := 3) (by omega) (sm_of (by simp; omega) (by simp; omega)) (sm_of (by simp; omega) (by simp; omega)) (by decide) ?_
  refine h _ (bz_div (by omega) (sm_of (by simp; omega) (by simp; omega)) (sm_of (by simp; omega) (by simp; omega))) ?_
  have : j = 0 ∨ j = 1 := by omega
  rcases this with e | e
  · exact ⟨2 * (i - 4), by rw [e]; exact (half_int _).1, by omega, by omega⟩
  · exact ⟨i - 4, by rw [e]; exact (half_int _).2, by omega, by omega⟩
theorem ciok_of {n m l : Int} (hx : x = (n : Rat) / 2) (hy : y = (m : Rat) / 2) (hr : r = (l : Rat) / 4) (n0 : -24 ≤ n) (n1 : n ≤ 24) (m0 : -8 ≤ m) (m1 : m ≤ 8) (l0 : 0 < l) (l1 : l ≤ 256) : CiOk (-2 * x) (-2 * y) (x * x + y * y - r) := by
  have hp : rad (-2 * x) (-2 * y) (x * x + y * y - r) = r := by unfold rad; grind
  have hnn : n * n ≤ 576 := by have := Int.mul_nonneg (show 0 ≤ 24 - n by omega) (show 0 ≤ 24 + n by omega); grind
  have hmm : m * m ≤ 64 := by have := Int.mul_nonneg (show 0 ≤ 8 - m by omega) (show 0 ≤ 8 + m by omega); grind
  have hn0 := isq n
  have hm0 := isq m
  refine ⟨⟨-n, ?_, by omega, by omega⟩, ⟨-m, ?_, by omega, by omega⟩, ⟨n * n + m * m - l, ?_, by omega, by omega⟩, ?_⟩
  · rw [hx, Rat.intCast_neg]; grind
  · rw [hy, Rat.intCast_neg]; grind
  · rw [hx, hy, hr, Rat.intCast_sub, Rat.intCast_add, Rat.intCast_mul, Rat.intCast_mul]; grind
  · rw [hp, hr]
    have : (0 : Rat) < (l : Rat) := by exact_mod_cast l0
    grind
theorem lnok_of (ha : bz 2 a) (hb : bz 2 b) (hc : bz 4 c) (h0 : ¬ (a = 0 ∧ b = 0)) : LnOk (a / fst' a b) (b / fst' a b) (c / fst' a b) := by
  have hf0 := fst_ne h0
  have hfb := bz_fst ha hb
  refine ⟨?_, bz_mono (bz_over ha hfb hf0) (by decide), bz_mono (bz_over hb hfb hf0) (by decide), bz_mono (bz_over hc hfb hf0) (by decide)⟩
  by_cases a0 : a = 0
  · refine .inr ⟨by rw [a0]; grind, ?_⟩
    have e : fst' a b = b := by unfold fst'; rw [if_pos a0]
    rw [e] at hf0 ⊢
    grind
  · refine .inl ?_
    have e : fst' a b = a := by unfold fst'; rw [if_neg a0]
    rw [e]
    grind
theorem curve_ok (hl : ∀ a b c, LnOk a b c → Q (ln a b c)) (hc : ∀ x y r, bz 3 x → bz 3 y → Hf 8 x → Hf 8 y → CiOk (-2 * x) (-2 * y) (x * x + y * y - r) → Q (ci (-2 * x) (-2 * y) (x * x + y * y - r))) : F__law_curve [wD] Q := by
  unfold F__law_curve
  placed_of0
  refine next_ok (by decide) fun i i0 i1 => ?_
  placed_of0
  rw [eqv_int]
  by_cases hi : i = 0
  · rw [decide_eq_true hi]
    placed_of0
    refine small2_ok fun x hx hx2 => ?_
    placed_of0
    refine small2_ok fun y hy hy2 => ?_
    placed_of0
    refine next_ok (by decide) fun i i0 i1 => ?_
    placed_of0
    refine next_ok (by decide) fun j j0 j1 => ?_
    placed_of0
    refine sp__law_frac (k := 4) (by omega) (sm_of (by simp; omega) (by simp; omega)) (sm_of (by simp; omega) (by simp; omega)) (by decide) ?_
    have hr : bz 4 (Rat.divInt (1 + i) (1 + j)) := bz_div (by omega) (sm_of (by simp; omega) (by simp; omega)) (sm_of (by simp; omega) (by simp; omega))
    have hl : ∃ l : Int, Rat.divInt (1 + i) (1 + j) = (l : Rat) / 4 ∧ 0 < l ∧ l ≤ 256 := by
      have : j = 0 ∨ j = 1 := by omega
      rcases this with e | e
      · exact ⟨4 * (1 + i), by rw [e]; show Rat.divInt _ 1 = _; rw [(half_int _).1, Rat.intCast_mul, Rat.intCast_mul, show ((2 : Int) : Rat) = 2 from rfl, show ((4 : Int) : Rat) = 4 from rfl]; grind, by omega, by omega⟩
      · exact ⟨2 * (1 + i), by rw [e]; show Rat.divInt _ 2 = _; rw [(half_int _).2, Rat.intCast_mul, show ((2 : Int) : Rat) = 2 from rfl]; grind, by omega, by omega⟩
    generalize Rat.divInt (1 + i) (1 + j) = r at *
    placed_of0
    refine lcircle_ok (k := 4) (bz_mono hx (by decide)) (bz_mono hy (by decide)) hr (by decide) ?_
    obtain ⟨l, hl, l0, l1⟩ := hl
    obtain ⟨n, hn, n0, n1⟩ := id hx2
    obtain ⟨m, hm, m0, m1⟩ := id hy2
    exact hc _ _ _ hx hy hx2 hy2 (ciok_of hn hm hl (by omega) (by omega) m0 m1 l0 l1)
  · rw [decide_eq_false hi]
    placed_of0
    refine next_ok (by decide) fun i i0 i1 => ?_
    placed_of0
    refine next_ok (by decide) fun j j0 j1 => ?_
    placed_of0
    rw [dr_int]
    have fin : ∀ k : Int, -1 ≤ k → k ≤ 2 → ¬ (i - 1 = 0 ∧ k = 0) → ∀ c, bz 3 c → F__law_line [dr ((i - 1 : Int) : Rat), dr (k : Rat), dr c] Q := by
      intro k k0 k1 hk c bc
      have b1 : bz 2 ((i - 1 : Int) : Rat) := bz_int (sm_of (by simp; omega) (by simp; omega)) (by decide)
      have b2 : bz 2 (k : Rat) := bz_int (sm_of (by simp; omega) (by simp; omega)) (by decide)
      have h0 : ¬ (((i - 1 : Int) : Rat) = 0 ∧ (k : Rat) = 0) := by rw [Rat.intCast_eq_zero_iff, Rat.intCast_eq_zero_iff]; exact hk
      refine lline_ok (k := 4) h0 (bz_mono b1 (by decide)) (bz_mono b2 (by decide)) (bz_mono bc (by decide)) (by decide) ?_
      exact hl _ _ _ (lnok_of b1 b2 (bz_mono bc (by decide)) h0)
    rw [eqv_int]
    by_cases hi : i - 1 = 0
    · rw [decide_eq_true hi]
      placed_of0
      rw [eqv_int]
      by_cases hj : j - 1 = 0
      · rw [decide_eq_true hj]
        placed_of0
        refine small2_ok fun c bc _ => ?_
        placed_of0
        exact fin 1 (by decide) (by decide) (by omega) c bc
      · rw [decide_eq_false hj]
        placed_of0
        rw [dr_int]
        refine small2_ok fun c bc _ => ?_
        placed_of0
        exact fin (j - 1) (by omega) (by omega) (by omega) c bc
    · rw [decide_eq_false hi]
      placed_of0
      rw [dr_int]
      refine small2_ok fun c bc _ => ?_
      placed_of0
      exact fin (j - 1) (by omega) (by omega) (by omega) c bc
end

/-- on a curve, told for both kinds -/
inductive On : D → Rat → Rat → Rat → Rat → Rat → Prop where
  | l {a b c p q r s C : Rat} (h : LnOk a b c) (o : OnL a b c p q r s) : On (ln a b c) p q r s C
  | c {a b c p q r s C : Rat} (h : CiOk a b c) (o : OnC a b c p q r s C) : On (ci a b c) p q r s C
section
variable {k l n ka kb kc kd ke kf : Nat} {a b c d e f g m p q r s t u v x y z p' q' r' s' C X Y M N : Rat} {Q : D → Prop} {D1 D2 : D}
theorem sg1_00 (C : Rat) : sg1 0 0 C = 0 := by rw [sg1_0]; rfl
theorem lside_on (hp : PB p q r s C) (h : On D1 p q r s C) (hq : Q (.int 0)) : F__law_side [D1, pn p q r s C] Q := by
  cases h with
  | l h o =>
    refine lside_ln hp (bz_mono h.2.1 (by decide)) (bz_mono h.2.2.1 (by decide)) (bz_mono h.2.2.2 (by decide)) ?_
    rw [o.1, o.2, sg1_00]
    exact hq
  | c h o =>
    obtain ⟨b1, b2, b3⟩ := h.bs
    refine lside_ci hp b1 b2 b3 ?_
    rw [o.1, o.2, sg1_00]
    exact hq
theorem pb_nsq (hp : PB p q r s C) : Nsq C := hp.1
theorem is_point_ok (hC : Nsq C) (h : Q (.bool true)) : F_is_point [pn p q r s C] Q := by
  unfold F_is_point
  placed_of0
  refine is_root_nrm hC ?_
  placed_of0
  refine is_root_nrm hC ?_
  placed_of0
  rw [eqv_int]
  have e : ∀ q : Rat, decide ((trd q C).num = 0) = decide (q = 0) := by
    intro q
    have h1 := num_trd (q := q) hC
    have h2 : 0 ≤ (trd q C).num := Rat.num_nonneg.mpr (trd_nonneg (by have := hC.1; grind))
    by_cases hq : q = 0
    · rw [decide_eq_true hq] at h1 ⊢
      have := of_decide_eq_false h1
      exact decide_eq_true (by omega)
    · rw [decide_eq_false hq] at h1 ⊢
      have := of_decide_eq_true h1
      exact decide_eq_false (by omega)
  rw [e]
  by_cases hq : q = 0
  · rw [decide_eq_true hq]
    placed_of0
    exact h
  rw [decide_eq_false hq]
  placed_of0
  rw [eqv_int, e]
  by_cases hs : s = 0
  · rw [decide_eq_true hs]
    placed_of0
    exact h
  rw [decide_eq_false hs]
  placed_of0
  rw [eqv_dr, show trd q C = C by unfold trd; rw [if_neg hq], show trd s C = C by unfold trd; rw [if_neg hs], decide_eq_true rfl]
  exact h
/-- where a third curve stands -/
theorem third_ok (hp : PB p q r s C) (h : ∀ d, ∀ i : Int, (∀ Q : D → Prop, Q (.int i) → F_sign_at [d, pn p q r s C] Q) → (∀ Q : D → Prop, Q (.int i) → F__law_side [d, pn p q r s C] Q) → Q d) : F__law_curve [wD] Q := by
  refine curve_ok (fun a b c hl => ?_) fun x y r hx hy _ _ hc => ?_
  · exact h _ _ (fun Q hq => sside_ln hp (bz_mono hl.2.1 (by decide)) (bz_mono hl.2.2.1 (by decide)) (bz_mono hl.2.2.2 (by decide)) hq) fun Q hq => lside_ln hp (bz_mono hl.2.1 (by decide)) (bz_mono hl.2.2.1 (by decide)) (bz_mono hl.2.2.2 (by decide)) hq
  · obtain ⟨b1, b2, b3⟩ := hc.bs
    exact h _ _ (fun Q hq => sside_ci hp b1 b2 b3 hq) fun Q hq => lside_ci hp b1 b2 b3 hq
/-! ### the law's look at what is found -/
abbrev cu (k : Int) (a b c : Rat) : D := .tuple [.int k, dr a, dr b, dr c]
def Cnt (N : Int) (k1 k2 : Int) (a b c d e f : Rat) : Prop := ∀ Q : D → Prop, Q (.int N) → F__law_many [cu k1 a b c, cu k2 d e f] Q
def Kind (k1 k2 : Int) (a b c d e f : Rat) : Prop := k1 = 1 → k2 = 1 → ∃ z : Str, PySem.PyData.strOk z = true ∧ (∀ Q : D → Prop, Q (.str z) → F_touch_kind [cu k1 a b c, cu k2 d e f] Q) ∧ (∀ Q : D → Prop, Q (.str z) → F__law_kind [cu k1 a b c, cu k2 d e f] Q)
/-- what meets finds -/
inductive Good (k1 k2 : Int) (a b c d e f : Rat) : List D → Prop where
  | g0 (n : Cnt 0 k1 k2 a b c d e f) : Good k1 k2 a b c d e f []
  | g1 {p q r s C : Rat} (n : Cnt 1 k1 k2 a b c d e f) (hp : PB p q r s C) (o1 : On (cu k1 a b c) p q r s C) (o2 : On (cu k2 d e f) p q r s C) : Good k1 k2 a b c d e f [pn p q r s C]
  | g2 {p q r s p' q' r' s' C : Rat} (n : Cnt 2 k1 k2 a b c d e f) (hp : PB p q r s C) (hp' : PB p' q' r' s' C) (o1 : On (cu k1 a b c) p q r s C) (o2 : On (cu k2 d e f) p q r s C) (o1' : On (cu k1 a b c) p' q' r' s' C) (o2' : On (cu k2 d e f) p' q' r' s' C) (hl : Lt p q r s p' q' r' s' C) : Good k1 k2 a b c d e f [pn p q r s C, pn p' q' r' s' C]
theorem eqv_str (z : Str) : PyData.eqv (.str z) (.str z) = true := by
  show (z == z) = true
  simp
theorem okD_str {x : Str} (h : PySem.PyData.strOk x = true) : okD (.str x) := ⟨rfl, by
  show (PySem.PyData.strOk x && decide (0 ≤ 64)) = true
  rw [h]; rfl⟩
theorem ne_int {i : Int} {R : D → Prop} (h : R (.bool false)) : fNe (.int i) (.int i) R := ⟨okD_int i, okD_int i, by rw [eqv_int, decide_eq_true rfl]; exact h⟩
theorem ne_str {z : Str} {R : D → Prop} (hz : PySem.PyData.strOk z = true) (h : R (.bool false)) : fNe (.str z) (.str z) R := ⟨okD_str hz, okD_str hz, by rw [eqv_str]; exact h⟩
theorem lmeets_go {k1 k2 : Int} (hm : ∀ K : D → Prop, (∀ ds, Good k1 k2 a b c d e f ds → K (.list ds)) → F_meets [cu k1 a b c, cu k2 d e f] K) (hk : Kind k1 k2 a b c d e f) (h : Q (.bool true)) : F__law_meets [wD, cu k1 a b c, cu k2 d e f] Q := by
  unfold F__law_meets
  placed_of0
  refine hm _ fun ds hg => ?_
  cases hg
  case g0 hn =>
    placed_of0
    refine hn _ ?_
    placed_of0
    rw [eqv_int]
    by_cases h1 : k1 = 1
    · rw [decide_eq_true h1]
      placed_of0
      rw [eqv_int]
      by_cases h2 : k2 = 1
      · rw [decide_eq_true h2]
        obtain ⟨z, hz, z1, z2⟩ := hk h1 h2
        placed_of0
        refine z1 _ ?_
        placed_of0
        refine z2 _ (ne_str hz ?_)
        placed_of0
        exact h
      · rw [decide_eq_false h2]
        placed_of0
        exact h
    · rw [decide_eq_false h1]
      placed_of0
      exact h
  case g1 p q r s C hn hp o1 o2 =>
    placed_of0
    refine hn _ ?_
    placed_of0
    refine is_point_ok hp.1 ?_
    placed_of0
    refine lside_on hp o1 ?_
    placed_of0
    refine lside_on hp o2 ?_
    placed_of0
    have fin : sFor (itL (eVar 3)) (mgName 4) (sSeq (sAsg (eCallN 1 F__law_curve (aCons (eVar 0) aNil)) (mgName 5)) (sIf (eT (eOp fNe (eCallN 2 F_sign_at (aCons (eVar 5) (aCons (eVar 4) aNil))) (eCallN 2 F__law_side (aCons (eVar 5) (aCons (eVar 4) aNil))))) (sRet (eC (.bool false))) sNext)) [.va wD, .va (cu k1 a b c), .va (cu k2 d e f), .va (.list [pn p q r s C]), .no, .no] ⟨fun ρ => sRet (eC (.bool true)) ρ ⟨fun x => Q PyData.none, Q, fun x => False, fun x => False⟩, Q, fun x => False, fun x => False⟩ := by
      placed_of0
      refine third_ok hp fun dd i z1 z2 => ?_
      placed_of0
      refine z1 _ ?_
      placed_of0
      refine z2 _ (ne_int ?_)
      placed_of0
      exact h
    rw [eqv_int]
    by_cases h1 : k1 = 1
    · rw [decide_eq_true h1]
      placed_of0
      rw [eqv_int]
      by_cases h2 : k2 = 1
      · rw [decide_eq_true h2]
        obtain ⟨z, hz, z1, z2⟩ := hk h1 h2
        placed_of0
        refine z1 _ ?_
        placed_of0
        refine z2 _ (ne_str hz ?_)
        repeat (first | (with_reducible exact fin) | tb_rel)
      · rw [decide_eq_false h2]
        repeat (first | (with_reducible exact fin) | tb_rel)
    · rw [decide_eq_false h1]
      repeat (first | (with_reducible exact fin) | tb_rel)
  case g2 p q r s p' q' r' s' C hn hp hp' o1 o2 o1' o2' hl =>
    placed_of0
    refine hn _ ?_
    placed_of0
    refine is_point_ok hp.1 ?_
    placed_of0
    refine lside_on hp o1 ?_
    placed_of0
    refine lside_on hp o2 ?_
    placed_of0
    refine is_point_ok hp.1 ?_
    placed_of0
    refine lside_on hp' o1' ?_
    placed_of0
    refine lside_on hp' o2' ?_
    placed_of0
    refine law_before_lt hp hp' hl ?_
    placed_of0
    refine cmp_points_gt hp hp' hl ?_
    placed_of0
    have fin : sFor (itL (eVar 3)) (mgName 4) (sSeq (sAsg (eCallN 1 F__law_curve (aCons (eVar 0) aNil)) (mgName 5)) (sIf (eT (eOp fNe (eCallN 2 F_sign_at (aCons (eVar 5) (aCons (eVar 4) aNil))) (eCallN 2 F__law_side (aCons (eVar 5) (aCons (eVar 4) aNil))))) (sRet (eC (.bool false))) sNext)) [.va wD, .va (cu k1 a b c), .va (cu k2 d e f), .va (.list [pn p q r s C, pn p' q' r' s' C]), .no, .no] ⟨fun ρ => sRet (eC (.bool true)) ρ ⟨fun x => Q PyData.none, Q, fun x => False, fun x => False⟩, Q, fun x => False, fun x => False⟩ := by
      placed_of0
      refine third_ok hp fun dd i z1 z2 => ?_
      placed_of0
      refine z1 _ ?_
      placed_of0
      refine z2 _ (ne_int ?_)
      placed_of0
      refine third_ok hp' fun dd i z1 z2 => ?_
      placed_of0
      refine z1 _ ?_
      placed_of0
      refine z2 _ (ne_int ?_)
      placed_of0
      exact h
    rw [eqv_int]
    by_cases h1 : k1 = 1
    · rw [decide_eq_true h1]
      placed_of0
      rw [eqv_int]
      by_cases h2 : k2 = 1
      · rw [decide_eq_true h2]
        obtain ⟨z, hz, z1, z2⟩ := hk h1 h2
        placed_of0
        refine z1 _ ?_
        placed_of0
        refine z2 _ (ne_str hz ?_)
        repeat (first | (with_reducible exact fin) | tb_rel)
      · rw [decide_eq_false h2]
        repeat (first | (with_reducible exact fin) | tb_rel)
    · rw [decide_eq_false h1]
      repeat (first | (with_reducible exact fin) | tb_rel)
end

section
variable {k l n ka kb kc kd ke kf : Nat} {a b c d e f g m p q r s t u v x y z p' q' r' s' C X Y M N : Rat} {Q : D → Prop} {D1 D2 : D}
theorem ln_up (h : LnOk a b c) : b = 0 → a = 1 := fun z => by
  rcases h.1 with h | ⟨_, h⟩
  · exact h
  · rw [z] at h; exact absurd h (by decide)
theorem sgn_case (z : Rat) : (z < 0 → z.num.sign = -1) ∧ (z = 0 → z.num.sign = 0) ∧ (0 < z → z.num.sign = 1) := ⟨fun h => sgn_neg h, fun h => by rw [h]; rfl, fun h => sgn_pos h⟩
theorem no_kind {k1 k2 : Int} (h : k1 = 0 ∨ k2 = 0) : Kind k1 k2 a b c d e f := fun z w => by omega
theorem lmeets_ll (h1 : LnOk a b c) (h2 : LnOk d e f) (h : Q (.bool true)) : F__law_meets [wD, ln a b c, ln d e f] Q := by
  obtain ⟨_, b1, b2, b3⟩ := id h1
  obtain ⟨_, b4, b5, b6⟩ := id h2
  have cn : ∀ N, (if a * e - b * d = 0 then 0 else 1) = N → Cnt N 0 0 a b c d e f := fun N e Q hq => many_ll (k := 5) b1 b2 b4 b5 (by decide) (by rw [e]; exact hq)
  refine lmeets_go (k1 := 0) (k2 := 0) (fun K hK => ?_) (no_kind (.inl rfl)) h
  unfold F_meets
  placed_of0
  refine of_lines_ok b1 b2 b3 b4 b5 b6 (fun l0 => ?_) (fun l0 p r hp o1 o2 => ?_)
  · placed_of0
    refine in_order_0 ?_
    exact hK _ (.g0 (cn _ (if_pos l0)))
  · placed_of0
    refine in_order_1 ?_
    exact hK _ (.g1 (cn _ (if_neg l0)) hp (.l h1 o1) (.l h2 o2))
theorem lmeets_lc (h1 : LnOk a b c) (h2 : CiOk d e f) (h : Q (.bool true)) : F__law_meets [wD, ln a b c, ci d e f] Q := by
  obtain ⟨_, b1, b2, b3⟩ := id h1
  obtain ⟨b4, b5, b6⟩ := h2.bs
  have c1 := bz_mono (l := 12) b1 (by decide)
  have c2 := bz_mono (l := 12) b2 (by decide)
  have c3 := bz_mono (l := 17) b3 (by decide)
  have cn : ∀ N, 1 + (dsc a b c d e f).num.sign = N → Cnt N 0 1 a b c d e f := fun N e Q hq => many_lc c1 c2 c3 b4 b5 b6 (by rw [e]; exact hq)
  obtain ⟨s1, s2, s3⟩ := sgn_case (dsc a b c d e f)
  refine lmeets_go (k1 := 0) (k2 := 1) (fun K hK => ?_) (no_kind (.inl rfl)) h
  unfold F_meets
  placed_of0
  refine line_circle_ok (ln_up h1) c1 c2 c3 b4 b5 b6 (fun z => ?_) (fun z p r hp o1 o2 => ?_) (fun z p q r s p' q' r' s' C hp hp' o1 o1' o2 o2' hl => ?_)
  · placed_of0
    refine in_order_0 ?_
    exact hK _ (.g0 (cn _ (by rw [s1 z]; rfl)))
  · placed_of0
    refine in_order_1 ?_
    exact hK _ (.g1 (cn _ (by rw [s2 z]; rfl)) hp (.l h1 o1) (.c h2 o2))
  · placed_of0
    refine in_order_2 hp hp' hl ?_
    exact hK _ (.g2 (cn _ (by rw [s3 z]; rfl)) hp hp' (.l h1 o1) (.c h2 o2) (.l h1 o1') (.c h2 o2') hl)
theorem lmeets_cl (h1 : LnOk a b c) (h2 : CiOk d e f) (h : Q (.bool true)) : F__law_meets [wD, ci d e f, ln a b c] Q := by
  obtain ⟨_, b1, b2, b3⟩ := id h1
  obtain ⟨b4, b5, b6⟩ := h2.bs
  have c1 := bz_mono (l := 12) b1 (by decide)
  have c2 := bz_mono (l := 12) b2 (by decide)
  have c3 := bz_mono (l := 17) b3 (by decide)
  have cn : ∀ N, 1 + (dsc a b c d e f).num.sign = N → Cnt N 1 0 d e f a b c := fun N e Q hq => many_cl c1 c2 c3 b4 b5 b6 (by rw [e]; exact hq)
  obtain ⟨s1, s2, s3⟩ := sgn_case (dsc a b c d e f)
  refine lmeets_go (k1 := 1) (k2 := 0) (fun K hK => ?_) (no_kind (.inr rfl)) h
  unfold F_meets
  placed_of0
  refine line_circle_ok (ln_up h1) c1 c2 c3 b4 b5 b6 (fun z => ?_) (fun z p r hp o1 o2 => ?_) (fun z p q r s p' q' r' s' C hp hp' o1 o1' o2 o2' hl => ?_)
  · placed_of0
    refine in_order_0 ?_
    exact hK _ (.g0 (cn _ (by rw [s1 z]; rfl)))
  · placed_of0
    refine in_order_1 ?_
    exact hK _ (.g1 (cn _ (by rw [s2 z]; rfl)) hp (.c h2 o2) (.l h1 o1))
  · placed_of0
    refine in_order_2 hp hp' hl ?_
    exact hK _ (.g2 (cn _ (by rw [s3 z]; rfl)) hp hp' (.c h2 o2) (.l h1 o1) (.c h2 o2') (.l h1 o1') hl)
/-! two circles -/
theorem dcc_dsc (g0 : g ≠ 0) : dcc a b c d e f = -(g * g * dsc ((a - d) / g) ((b - e) / g) ((c - f) / g) a b c) := by
  obtain ⟨A, eA⟩ : ∃ A, A = (a - d) / g := ⟨_, rfl⟩
  obtain ⟨B, eB⟩ : ∃ A, A = (b - e) / g := ⟨_, rfl⟩
  obtain ⟨C, eC⟩ : ∃ A, A = (c - f) / g := ⟨_, rfl⟩
  have h1 : a - d = A * g := by rw [eA]; exact (Rat.div_mul_cancel g0).symm
  have h2 : b - e = B * g := by rw [eB]; exact (Rat.div_mul_cancel g0).symm
  have h3 : c - f = C * g := by rw [eC]; exact (Rat.div_mul_cancel g0).symm
  rw [← eA, ← eB, ← eC]
  have h4 : d = a - A * g := by grind
  have h5 : e = b - B * g := by grind
  have h6 : f = c - C * g := by grind
  clear eA eB eC h1 h2 h3 g0
  unfold dcc dsc rst gap2 rad
  rw [h4, h5, h6]
  grind
theorem dcc_same (h1 : a - d = 0) (h2 : b - e = 0) : dcc a b c d e f = (c - f) * (c - f) := by
  have h4 : d = a := by grind
  have h5 : e = b := by grind
  unfold dcc rst gap2 rad
  rw [h4, h5]
  grind
theorem on_other (g0 : g ≠ 0) (h1 : OnL ((a - d) / g) ((b - e) / g) ((c - f) / g) p q r s) (h2 : OnC a b c p q r s C) : OnC d e f p q r s C := by
  obtain ⟨x1, x2⟩ := h1
  obtain ⟨y1, y2⟩ := h2
  have e1 : (a - d) * p + (b - e) * r + (c - f) = 0 := by
    have : ((a - d) / g * p + (b - e) / g * r + (c - f) / g) * g = (a - d) * p + (b - e) * r + (c - f) := by grind
    rw [x1] at this
    grind
  have e2 : (a - d) * q + (b - e) * s = 0 := by
    have : ((a - d) / g * q + (b - e) / g * s) * g = (a - d) * q + (b - e) * s := by grind
    rw [x2] at this
    grind
  exact ⟨by grind, by grind⟩
theorem sok_kind : PySem.PyData.strOk (kindw a b c d e f) = true := by
  unfold kindw
  repeat' split
  all_goals decide +kernel
theorem lmeets_cc (h0 : ¬ (a = d ∧ b = e ∧ c = f)) (h1 : CiOk a b c) (h2 : CiOk d e f) (h : Q (.bool true)) : F__law_meets [wD, ci a b c, ci d e f] Q := by
  obtain ⟨b1, b2, b3⟩ := h1.bs
  obtain ⟨b4, b5, b6⟩ := h2.bs
  have w1 : bz 6 (a - d) := (h1.1.sub h2.1).bz (by decide) (by decide)
  have w2 : bz 6 (b - e) := (h1.2.1.sub h2.2.1).bz (by decide) (by decide)
  have w3 : bz 11 (c - f) := quarter (by have := h1.2.2.1.sub h2.2.2.1; rw [show 4 * (c - f) = 4 * c - 4 * f by grind]; exact this) (by decide) (by decide)
  have cn : ∀ N, cnt (dcc a b c d e f) = N → Cnt N 1 1 a b c d e f := fun N e Q hq => many_cc b1 b2 b3 b4 b5 b6 (by rw [e]; exact hq)
  refine lmeets_go (k1 := 1) (k2 := 1) (fun K hK => ?_) (fun _ _ => ⟨_, sok_kind, fun Q hq => touch_ok h0 b1 b2 b3 b4 b5 b6 hq, fun Q hq => lkind_ok b1 b2 b3 b4 b5 b6 hq⟩) h
  unfold F_meets
  placed_of0
  refine same_power_ok w1 w2 w3 b1 b2 b3 b4 b5 b6 (fun z => ?_) (fun g eg g0 => ?_)
  · placed_of0
    refine in_order_0 ?_
    refine hK _ (.g0 (cn _ ?_))
    have e3 := dcc_same (c := c) (f := f) z.1 z.2
    have hne : c - f ≠ 0 := fun w => h0 ⟨by grind, by grind, by grind⟩
    have := rsq_pos hne
    unfold cnt
    rw [if_neg (by grind), if_neg (by grind)]
  · have bg : bz 6 g := by rw [eg]; exact bz_fst w1 w2
    have hup : (b - e) / g = 0 → (a - d) / g = 1 := fun z => by
      have hb : b - e = 0 := by
        have : (b - e) / g * g = b - e := Rat.div_mul_cancel g0
        rw [z] at this; grind
      have : g = a - d := by
        rw [eg]; unfold fst'
        split
        · rename_i ha
          exact (g0 (by rw [eg]; unfold fst'; rw [if_pos ha]; exact hb)).elim
        · rfl
      rw [← this]; grind
    have e3 := dcc_dsc (a := a) (b := b) (c := c) (d := d) (e := e) (f := f) g0
    have gg := rsq_pos g0
    placed_of0
    refine line_circle_ok hup (bz_mono (bz_over w1 bg g0) (by decide)) (bz_mono (bz_over w2 bg g0) (by decide)) (bz_mono (bz_over w3 bg g0) (by decide)) b1 b2 b3 (fun z => ?_) (fun z p r hp o1 o2 => ?_) (fun z p q r s p' q' r' s' C hp hp' o1 o1' o2 o2' hl => ?_)
    · placed_of0
      refine in_order_0 ?_
      refine hK _ (.g0 (cn _ ?_))
      generalize dsc ((a - d) / g) ((b - e) / g) ((c - f) / g) a b c = w at *
      have := Rat.mul_pos gg (b := -w) (by grind)
      unfold cnt
      rw [if_neg (by grind), if_neg (by grind)]
    · placed_of0
      refine in_order_1 ?_
      refine hK _ (.g1 (cn _ ?_) hp (.c h1 o2) (.c h2 (on_other g0 o1 o2)))
      rw [z] at e3
      unfold cnt
      rw [if_neg (by grind), if_pos (by grind)]
    · placed_of0
      refine in_order_2 hp hp' hl ?_
      refine hK _ (.g2 (cn _ ?_) hp hp' (.c h1 o2) (.c h2 (on_other g0 o1 o2)) (.c h1 o2') (.c h2 (on_other g0 o1' o2')) hl)
      generalize dsc ((a - d) / g) ((b - e) / g) ((c - f) / g) a b c = w at *
      have := Rat.mul_pos gg z
      unfold cnt
      rw [if_pos (by grind)]
end

section
variable {k l n ka kb kc kd ke kf : Nat} {a b c d e f g m p q r s t u v x y z p' q' r' s' C X Y M N : Rat} {Q : D → Prop} {D1 D2 : D}
/-! ### sides of points of fractions -/
theorem sg1_c0 (a b : Rat) : sg1 a b 0 = sgn a := by rw [sg1_def _ 0 rfl (by rw [if_pos rfl]), if_pos (.inr rfl)]
theorem side_pl_ln (ha : bz k a) (hb : bz k b) (hc : bz n c) (hx : bz l x) (hy : bz l y) (hk : k < 200) (hn : n < 1200) (hl : l < 60) (h : Q (.int (sgn (a * x + b * y + c)))) : F__law_side [ln a b c, .tuple [rt x 0 0, rt y 0 0]] Q := by
  unfold F__law_side
  placed_of0
  unfold F__law_value
  kct_strs
  refine sp__law_sign (by decide) (ka := 2 * k + n + 2 * l + 2) (kb := 2 * k + 4) (kc := 1) (bz_mono (by dl_puts) (by omega)) (bz_mono (by dl_puts) (by omega)) bz_0 (by omega) ?_
  rw [sg1_c0]
  exact h
theorem side_pl_ci (ha : bz k a) (hb : bz k b) (hc : bz n c) (hx : bz l x) (hy : bz l y) (hk : k < 200) (hn : n < 1200) (hl : l < 60) (h : Q (.int (sgn (a * x + b * y + c + (x * x + y * y))))) : F__law_side [ci a b c, .tuple [rt x 0 0, rt y 0 0]] Q := by
  unfold F__law_side
  placed_of0
  unfold F__law_value
  kct_strs
  refine sp__law_sign (by decide) (ka := 2 * k + n + 6 * l + 12) (kb := 2 * k + 2 * l + 12) (kc := 1) (bz_mono (by dl_puts) (by omega)) (bz_mono (by dl_puts) (by omega)) bz_0 (by omega) ?_
  rw [sg1_c0, show a * x + b * y + c + (x * x + y * y + (0 * 0 + 0 * 0) * 0) = a * x + b * y + c + (x * x + y * y) by grind]
  exact h
/-! ### through points -/
theorem xlthru_ok (hx : bz k x) (hy : bz k y) (hu : bz k u) (hv : bz k v) (hk : k < 300) (h1 : (y - v = 0 ∧ u - x = 0) → Q (exD "line"))
    (h : ¬ (y - v = 0 ∧ u - x = 0) → Q (.tuple [ln ((y - v) / fst' (y - v) (u - x)) ((u - x) / fst' (y - v) (u - x)) (-((y - v) * x + (u - x) * y) / fst' (y - v) (u - x)), .bool (!decide ((fst' (y - v) (u - x)).num < 0))])) : FX_line_through [pt x y, pt u v] Q := by
  unfold FX_line_through
  placed_of1
  refine xline_ok (k := 6 * k + 4) (bz_mono (by dl_puts) (by omega)) (bz_mono (by dl_puts) (by omega)) (bz_mono (by dl_puts) (by omega)) (by omega) (fun z => ?_) fun z => ?_
  · placed_of0
    exact h1 z
  · placed_of0
    exact h z
theorem try_line (hx : bz k x) (hy : bz k y) (hu : bz k u) (hv : bz k v) (hk : k < 300) {ds : List D} (h1 : (y - v = 0 ∧ u - x = 0) → Q (.str "line"))
    (h : ¬ (y - v = 0 ∧ u - x = 0) → Q (.tuple [ln ((y - v) / fst' (y - v) (u - x)) ((u - x) / fst' (y - v) (u - x)) (-((y - v) * x + (u - x) * y) / fst' (y - v) (u - x)), .bool (!decide ((fst' (y - v) (u - x)).num < 0))])) : F__law_try [.str "line", .list (pt x y :: pt u v :: ds)] Q := by
  unfold F__law_try
  placed_of0
  · exact okD_str (by decide +kernel)
  · exact okD_str (by decide +kernel)
  placed_of0
  refine xlthru_ok hx hy hu hv hk (fun z => ?_) fun z => ?_
  · placed_of0
    exact h1 z
  · placed_of0
    exact h z
theorem try_circle (hx : bz k x) (hy : bz k y) (hu : bz k u) (hv : bz k v) (hp : bz k p) (hq : bz k q) (hk : k < 12) (h1 : (u - x) * (q - y) - (v - y) * (p - x) = 0 → Q (.str "circle"))
    (h : ∀ m n : Rat, (u - x) * (q - y) - (v - y) * (p - x) ≠ 0 → (x - m) * (x - m) + (y - n) * (y - n) = (u - m) * (u - m) + (v - n) * (v - n) → (x - m) * (x - m) + (y - n) * (y - n) = (p - m) * (p - m) + (q - n) * (q - n) → bz (28 * k + 16) m → bz (28 * k + 16) n → 
      Q (ci (-2 * m) (-2 * n) (m * m + n * n - ((x - m) * (x - m) + (y - n) * (y - n))))) : F__law_try [.str "circle", .list [pt x y, pt u v, pt p q]] Q := by
  unfold F__law_try
  placed_of0
  · exact okD_str (by decide +kernel)
  · exact okD_str (by decide +kernel)
  placed_of0
  refine xthrough_ok hx hy hu hv hp hq hk (fun z => ?_) fun m n z0 z1 z2 z3 z4 => ?_
  · placed_of0
    exact h1 z
  · placed_of0
    exact h m n z0 z1 z2 z3 z4
end

section
variable {k l n ka kb kc kd ke kf : Nat} {a b c d e f g m p q r s t u v x y z p' q' r' s' C X Y M N : Rat} {Q : D → Prop} {D1 D2 : D}
theorem eqv_pt (x y u v : Rat) : PyData.eqv (pt x y) (pt u v) = decide (x = u ∧ y = v) := by
  show (PyData.eqv (dr x) (dr u) && (PyData.eqv (dr y) (dr v) && true)) = _
  rw [eqv_dr, eqv_dr, Bool.and_true, Bool.decide_and]
theorem okD_lne : okD (.str "line") := okD_str (by decide +kernel)
theorem okD_cir : okD (.str "circle") := okD_str (by decide +kernel)
theorem line_has {n : Rat} (h0 : ¬ (y - v = 0 ∧ u - x = 0)) (hf : f ≠ 0) : (y - v) / f * x + (u - x) / f * y + -((y - v) * x + (u - x) * y) / f = 0 ∧ (y - v) / f * u + (u - x) / f * v + -((y - v) * x + (u - x) * y) / f = 0 := by
  constructor <;> grind
theorem line_left (hf : f ≠ 0) : ((y - v) / f * (x - (v - y)) + (u - x) / f * (y + (u - x)) + -((y - v) * x + (u - x) * y) / f) * f = (y - v) * (y - v) + (u - x) * (u - x) := by
  grind
theorem zz (t : Rat) (h : t * t ≤ 0) : t = 0 := by
  refine Classical.byContradiction fun z => ?_
  have := rsq_pos z
  grind
theorem says_ok {b b' : Bool} (e : b = b') (h : Q (.bool true)) : F__law_says [.bool b, .bool b'] Q := by
  unfold F__law_says
  placed_of0
  rw [show PyData.eqv (.bool b) (.bool b') = (b == b') from rfl, e, beq_self_eq_true]
  exact h
/-- the law's look at the line -/
theorem line_part (hx : bz 3 x) (hy : bz 3 y) (hu : bz 3 u) (hv : bz 3 v) (hp : bz 3 p) (hq : bz 3 q) (h : Q (.bool true)) {s8 s9 s10 s11 s12 s13 s14 s15 : Sl} :
    (sSeq (sAsg (eCallN 2 F__law_try (aCons (eC (.str "line")) (aCons (eVar 1) aNil))) (mgName 10)) (sSeq (sIf (eT (eOp fEq (eOp fIx (eVar 1) (eC (.int 0))) (eOp fIx (eVar 1) (eC (.int 1))))) (sRet (eOp fEq (eVar 10) (eC (.str "line")))) sNext) (sSeq (sAsg (eVar 10) (mgTup 2 (mgCons (mgName 11) (mgCons (mgName 12) mgNil)))) (sSeq (sAsg (eCallN 2 F__law_point (aCons (eCallN 2 F__law_less (aCons (eVar 2) (aCons (eCallN 2 F__law_less (aCons (eVar 5) (aCons (eVar 3) aNil))) aNil))) (aCons (eCallN 2 F__law_add (aCons (eVar 3) (aCons (eCallN 2 F__law_less (aCons (eVar 4) (aCons (eVar 2) aNil))) aNil))) aNil))) (mgName 13)) (sSeq (sIf (mOr (eT (eOp fNe (eOp fIx (eVar 11) (eC (.int 0))) (eC (.int 0)))) (mOr (eT (eOp fNotB (eCallN 1 F_is_curve (aCons (eVar 11) aNil)) (eC (.bool true)))) (eT (eOp fNe (eLc (itL (eSl (eVar 1) oNone (oSome (eC (.int 2))))) [15] (mgName 15) (eT (eOp fNe (eCallN 2 F__law_side (aCons (eVar 11) (aCons (eCallN 2 F__law_point (aCons (eOp fIx (eVar 15) (eC (.int 0))) (aCons (eOp fIx (eVar 15) (eC (.int 1))) aNil))) aNil))) (eC (.int 0)))) (eC (.int 1))) (eLst aNil))))) (sRet (eC (.bool false))) sNext) (sRet (eCallN 2 F__law_says (aCons (eVar 12) (aCons (eOp fGt (eCallN 2 F__law_side (aCons (eVar 11) (aCons (eVar 13) aNil))) (eC (.int 0))) aNil)))))))))
    [.va wD, .va (.list [pt x y, pt u v, pt p q]), .va (dr x), .va (dr y), .va (dr u), .va (dr v), .va (dr p), .va (dr q), s8, s9, s10, s11, s12, s13, s14, s15] ⟨fun x => Q PyData.none, Q, fun x => False, fun x => False⟩ := by
  placed_of0
  refine try_line hx hy hu hv (by decide) (fun z => ?_) fun z => ?_
  · placed_of0
    rw [eqv_pt, decide_eq_true ⟨by grind, by grind⟩]
    placed_of0
    · exact okD_lne
    · exact okD_lne
    placed_of0
    rw [eqv_str]
    exact h
  · have hf0 := fst_ne z
    have bf : bz 7 (fst' (y - v) (u - x)) := bz_fst (bz_sub hy hv) (bz_sub hu hx)
    have b1 : bz 14 ((y - v) / fst' (y - v) (u - x)) := bz_over (bz_sub hy hv) bf hf0
    have b2 : bz 14 ((u - x) / fst' (y - v) (u - x)) := bz_over (bz_sub hu hx) bf hf0
    have b3 : bz 28 (-((y - v) * x + (u - x) * y) / fst' (y - v) (u - x)) := bz_mono (bz_over (bz_neg (bz_add (bz_mul (bz_sub hy hv) hx) (bz_mul (bz_sub hu hx) hy))) bf hf0) (by decide)
    obtain ⟨e1, e2⟩ := line_has (n := 0) z hf0
    have e3 := line_left (x := x) (y := y) (u := u) (v := v) hf0
    have hn : (y - v) / fst' (y - v) (u - x) = 1 ∨ (y - v) / fst' (y - v) (u - x) = 0 ∧ (u - x) / fst' (y - v) (u - x) = 1 := by
      by_cases w : y - v = 0
      · have e : fst' (y - v) (u - x) = u - x := by unfold fst'; rw [if_pos w]
        rw [e] at hf0 ⊢
        exact .inr ⟨by rw [w]; grind, by grind⟩
      · have e : fst' (y - v) (u - x) = y - v := by unfold fst'; rw [if_neg w]
        rw [e] at hf0 ⊢
        exact .inl (by grind)
    have hpos : 0 < (y - v) * (y - v) + (u - x) * (u - x) := by
      have s1 := rsq_nonneg (y - v)
      have s2 := rsq_nonneg (u - x)
      refine Classical.byContradiction fun w => z ⟨zz _ (by grind), zz _ (by grind)⟩
    generalize fst' (y - v) (u - x) = f at *
    generalize (y - v) / f = A at *
    generalize (u - x) / f = B at *
    generalize -((y - v) * x + (u - x) * y) / f = C at *
    placed_of0
    rw [eqv_pt, decide_eq_false (fun w => z ⟨by rw [w.2]; grind, by rw [w.1]; grind⟩)]
    placed_of1
    refine lpoint_ok ?_
    placed_of0
    refine is_curve_ln hn ?_
    placed_of0
    rw [show cutD [pt x y, pt u v, pt p q] none (some 2) = [pt x y, pt u v] from rfl]
    placed_of0
    refine lpoint_ok ?_
    placed_of0
    refine side_pl_ln (k := 14) (n := 28) (l := 3) b1 b2 b3 hx hy (by decide) (by decide) (by decide) ?_
    rw [e1, sgn_zero]
    placed_of0
    refine lpoint_ok ?_
    placed_of0
    refine side_pl_ln (k := 14) (n := 28) (l := 3) b1 b2 b3 hu hv (by decide) (by decide) (by decide) ?_
    rw [e2, sgn_zero]
    placed_of0
    refine side_pl_ln (k := 14) (n := 28) (l := 11) b1 b2 b3 (bz_mono (bz_sub hx (bz_sub hv hy)) (by decide)) (bz_mono (bz_add hy (bz_sub hu hx)) (by decide)) (by decide) (by decide) (by decide) ?_
    placed_of0
    refine says_ok ?_ h
    generalize A * (x - (v - y)) + B * (y + (u - x)) + C = w at *
    by_cases hneg : f < 0
    · have h1 : f.num < 0 := by
        have := sgn_neg hneg
        exact Int.sign_eq_neg_one_iff_neg.mp this
      rw [decide_eq_true h1]
      have : ¬ 0 < w := fun hw => by
        have := Rat.mul_pos hw (b := -f) (by grind)
        grind
      have hw : w < 0 := by
        refine Classical.byContradiction fun q => ?_
        have : w = 0 := by grind
        rw [this] at e3; grind
      rw [sgn_neg hw]
      rfl
    · have h1 : ¬ f.num < 0 := by
        have := Rat.num_nonneg.mpr (show 0 ≤ f by grind)
        omega
      rw [decide_eq_false h1]
      have hw : 0 < w := by
        refine Classical.byContradiction fun q => ?_
        have := Rat.mul_nonneg (a := -w) (b := f) (by grind) (by grind)
        grind
      rw [sgn_pos hw]
      rfl
theorem through_law (h : Q (.bool true)) : F__law_through [wD] Q := by
  unfold F__law_through
  placed_of0
  rw [show rngD 0 (Int.toNat 3) = [.int 0, .int 1, .int 2] from rfl]
  placed_of0
  refine small_ok fun x hx => ?_
  placed_of0
  refine small_ok fun y hy => ?_
  placed_of0
  refine small_ok fun u hu => ?_
  placed_of0
  refine small_ok fun v hv => ?_
  placed_of0
  refine small_ok fun p hp => ?_
  placed_of0
  refine small_ok fun q hq => ?_
  kct_strs
  refine try_circle hx hy hu hv hp hq (by decide) (fun z => ?_) fun m n z q1 q2 bm bn => ?_
  · rw [z]
    placed_of0
    · exact okD_cir
    · exact okD_cir
    rw [eqv_str, Bool.not_true]
    repeat (first | (with_reducible exact line_part hx hy hu hv hp hq h) | tb_rel | tb_start)
  · placed_of0
    rw [eqv_int, decide_eq_false (num_ne z)]
    placed_of0
    have br : bz 420 ((x - m) * (x - m) + (y - n) * (y - n)) := bz_mono (by dl_puts) (by decide)
    have ba : bz 102 (-2 * m) := bz_mono (bz_mul bz_m2 bm) (by decide)
    have bb : bz 102 (-2 * n) := bz_mono (bz_mul bz_m2 bn) (by decide)
    have bc : bz 830 (m * m + n * n - ((x - m) * (x - m) + (y - n) * (y - n))) := bz_mono (bz_sub (bz_add (bz_mul bm bm) (bz_mul bn bn)) br) (by decide)
    have hr : 0 < (x - m) * (x - m) + (y - n) * (y - n) := by
      have s1 := rsq_nonneg (x - m)
      have s2 := rsq_nonneg (y - n)
      have s3 := rsq_nonneg (u - m)
      have s4 := rsq_nonneg (v - n)
      have s5 := rsq_nonneg (p - m)
      have s6 := rsq_nonneg (q - n)
      refine Classical.byContradiction fun hr => z ?_
      have z1 := zz (x - m) (by grind)
      have z2 := zz (y - n) (by grind)
      have z3 := zz (u - m) (by grind)
      have z4 := zz (v - n) (by grind)
      have : u - x = 0 := by grind
      have : v - y = 0 := by grind
      grind
    have hR : -(-2 * m) / 2 * (-(-2 * m) / 2) + -(-2 * n) / 2 * (-(-2 * n) / 2) - (m * m + n * n - ((x - m) * (x - m) + (y - n) * (y - n))) = (x - m) * (x - m) + (y - n) * (y - n) := by grind
    have s1 : -2 * m * x + -2 * n * y + (m * m + n * n - ((x - m) * (x - m) + (y - n) * (y - n))) + (x * x + y * y) = 0 := by grind
    have s2 : -2 * m * u + -2 * n * v + (m * m + n * n - ((x - m) * (x - m) + (y - n) * (y - n))) + (u * u + v * v) = 0 := by grind
    have s3 : -2 * m * p + -2 * n * q + (m * m + n * n - ((x - m) * (x - m) + (y - n) * (y - n))) + (p * p + q * q) = 0 := by grind
    refine is_curve_ci (k := 830) (bz_mono ba (by decide)) (bz_mono bb (by decide)) bc (by decide) ?_
    rw [hR, decide_eq_true hr]
    placed_of0
    refine lpoint_ok ?_
    placed_of0
    refine side_pl_ci (k := 102) (n := 830) (l := 3) ba bb bc hx hy (by decide) (by decide) (by decide) ?_
    rw [s1, sgn_zero]
    placed_of0
    refine lpoint_ok ?_
    placed_of0
    refine side_pl_ci (k := 102) (n := 830) (l := 3) ba bb bc hu hv (by decide) (by decide) (by decide) ?_
    rw [s2, sgn_zero]
    placed_of0
    refine lpoint_ok ?_
    placed_of0
    refine side_pl_ci (k := 102) (n := 830) (l := 3) ba bb bc hp hq (by decide) (by decide) (by decide) ?_
    rw [s3, sgn_zero]
    repeat (first | (with_reducible exact line_part hx hy hu hv hp hq h) | tb_rel | tb_start)
end

section
variable {Q : D → Prop}
theorem rngD_range' (j : Nat) : rngD 0 ((j : Nat) : Int).toNat = (List.range' 0 j).map fun t : Nat => PyData.int (0 + (t : Int)) := by
  unfold rngD
  rw [Int.toNat_natCast, List.range_eq_range']
/-! ### the draws -/
local macro_rules | `(tactic| pv_isi_meta) => `(tactic| (show (_ : Int) ≠ 0; decide))
theorem w_ixD {ns : List Int} {x : Int} {d : D} (h : atI (ns.map PyData.int) x = some d) (q : Q d) : fIx (scr ns) (.int x) Q := by
  show (match atI (ns.map PyData.int) x with | some d => Q d | none => False)
  rw [h]; exact q
theorem w_lenD {ns : List Int} (q : Q (.int ns.length)) : fLen [scr ns] Q := by
  show Q (.int ((ns.map PyData.int).length : Nat))
  rw [List.length_map]; exact q
theorem atI_rng {ns : List Int} {k : Nat} (h : k < ns.length) : atI (ns.map PyData.int) (0 + (k : Int)) = some (.int (ns[k])) := by
  have e : ixN (ns.map PyData.int).length (0 + (k : Int)) = some k := by
    unfold ixN
    rw [if_pos (by omega), if_pos (by rw [List.length_map]; omega), Int.zero_add, Int.toNat_natCast]
  unfold atI
  rw [e]
  show (ns.map PyData.int)[k]? = _
  rw [List.getElem?_map, List.getElem?_eq_getElem h]
  rfl
theorem digits_loop {s0 s1 s3 s4 s5 : Sl} {P : Po} : ∀ (ds : List D) (ms : List Int) (r : Int) (s7 : Sl), ms.length + ds.length < 90000 → (∀ (ms' : List Int) (r : Int) (s7 : Sl), ms'.length ≤ ms.length + ds.length → P.nx [s0, s1, .ow (ms'.map PyData.int), s3, s4, s5, .va (.int r), s7]) →
    forW (mgName 7) (sIf (eT (eOp fGt (eVar 6) (eC (.int 0)))) (sSeq (sApp 2 (aCons (eOp fMod (eCall fInt (aCons (eVar 6) aNil)) (eC (.int 997))) aNil)) (sAsg (eOp fDiv (eVar 6) (eC (.int 997))) (mgName 6))) sNext) ds [s0, s1, .ow (ms.map PyData.int), s3, s4, s5, .va (.int r), s7] P
  | [], ms, r, s7, hl, h => by
    obtain ⟨nx, rt, bk, ct⟩ := P
    exact h ms r s7 (by rw [List.length_nil]; omega)
  | d :: ds, ms, r, s7, hl, h => by
    obtain ⟨nx, rt, bk, ct⟩ := P
    rw [List.length_cons] at hl
    placed_of0
    by_cases e : 0 < r
    · rw [decide_eq_true e]
      placed_of0
      refine w_kApp (by rw [List.length_map]; omega) (show _ = [s0, s1, .ow ((ms ++ [r.fmod 997]).map PyData.int), s3, s4, s5, .va (.int r), .va d] by rw [List.map_append]; rfl) ?_
      placed_of0
      · exact ⟨by decide, by decide⟩
      placed_of0
      exact digits_loop ds (ms ++ [r.fmod 997]) _ _ (by rw [List.length_append, List.length_singleton]; omega) fun ms' r s7 h' => h ms' r s7 (by rw [List.length_append, List.length_singleton] at h'; rw [List.length_cons]; omega)
    · rw [decide_eq_false e]
      placed_of0
      exact digits_loop ds ms r _ (by omega) fun ms' r s7 h' => h ms' r s7 (by rw [List.length_cons]; omega)
def drawBody : MS := (sSeq (sAsg (eCall fAbs (aCons (eCall fInt (aCons (eOp fIx (eVar 0) (eVar 4)) aNil)) aNil)) (mgName 5)) (sSeq (sAsg (eOp fMod (eCall fInt (aCons (eOp fAdd (eOp fAdd (eOp fMul (eVar 3) (eC (.int 48271))) (eOp fMod (eVar 5) (eC (.int 1000003)))) (eVar 4)) aNil)) (eC (.int 65537))) (mgName 3)) (sSeq (sAsg (eC (.int 0)) (mgName 6)) (sSeq (sIf (eT (eOp fGe (eVar 5) (eOp fPow (eC (.int 10)) (eC (.int 18))))) (sAsg (eVar 5) (mgName 6)) (sSeq (sApp 2 (aCons (eOp fMod (eCall fInt (aCons (eVar 5) aNil)) (eC (.int 997))) aNil)) (sApp 2 (aCons (eOp fMod (eOp fMod (eCall fInt (aCons (eOp fAdd (eOp fMul (eVar 3) (eC (.int 69621))) (eC (.int 5))) aNil)) (eC (.int 65521))) (eC (.int 997))) aNil)))) (sFor (itR1 (aCons (eC (.int 60)) aNil)) (mgName 7) (sIf (eT (eOp fGt (eVar 6) (eC (.int 0)))) (sSeq (sApp 2 (aCons (eOp fMod (eCall fInt (aCons (eVar 6) aNil)) (eC (.int 997))) aNil)) (sAsg (eOp fDiv (eVar 6) (eC (.int 997))) (mgName 6))) sNext))))))
theorem fmod_bd (x : Int) {y : Int} (hy : 0 < y) : 0 ≤ x.fmod y ∧ x.fmod y < y := by
  refine ⟨?_, Int.fmod_lt_of_pos _ hy⟩
  rw [Int.fmod_eq_emod_of_nonneg _ (by omega)]
  exact Int.emod_nonneg _ (by omega)
theorem draw_loop {ns : List Int} {s1 : Sl} {P : Po} : ∀ (n k : Nat) (ms : List Int) (mx : Int) (s4 s5 s6 s7 : Sl), k + n = ns.length → ms.length + 62 * n < 80000 → 0 ≤ mx → mx < 65537 →
    (∀ (ms' : List Int) (mx : Int) (s4 s5 s6 s7 : Sl), ms'.length ≤ ms.length + 62 * n → 0 ≤ mx → mx < 65537 → P.nx [.va (scr ns), s1, .ow (ms'.map PyData.int), .va (.int mx), s4, s5, s6, s7]) →
    forW (mgName 4) drawBody ((List.range' k n).map fun i : Nat => PyData.int (0 + (i : Int))) [.va (scr ns), s1, .ow (ms.map PyData.int), .va (.int mx), s4, s5, s6, s7] P
  | 0, k, ms, mx, s4, s5, s6, s7, hk, hl, m0, m1, h => by
    obtain ⟨nx, rt, bk, ct⟩ := P
    exact h ms mx s4 s5 s6 s7 (by omega) m0 m1
  | n + 1, k, ms, mx, s4, s5, s6, s7, hk, hl, m0, m1, h => by
    obtain ⟨nx, rt, bk, ct⟩ := P
    rw [List.range'_succ, List.map_cons]
    refine w_forC ?_
    tb_rel
    unfold drawBody
    tb_rel
    kfm_turns
    refine w_ixD (atI_rng (k := k) (by omega)) ?_
    placed_of0
    · exact cmul (k := 17) (l := 17) (sm_of (by simp; omega) (by simp; omega)) (sm_of (by decide) (by decide)) (by decide)
    placed_of0
    · exact ⟨by decide, by decide, by decide⟩
    tb_rel
    tb_rel
    have hm := fmod_bd (mx * 48271 + (if ns[k] < 0 then -ns[k] else ns[k]).fmod 1000003 + (0 + (k : Int))) (y := 65537) (by decide)
    generalize (mx * 48271 + (if ns[k] < 0 then -ns[k] else ns[k]).fmod 1000003 + (0 + (k : Int))).fmod 65537 = mx' at *
    generalize (if ns[k] < 0 then -ns[k] else ns[k]) = c at *
    by_cases e : (10 : Int) ^ (18 : Int).toNat ≤ c
    · rw [decide_eq_true e]
      placed_of0
      refine digits_loop _ ms _ _ (by unfold rngD; simp; omega) fun ms' r s7 h' => ?_
      placed_of0
      refine draw_loop n (k + 1) ms' _ _ _ _ _ (by omega) ?_ hm.1 hm.2 fun ms2 mx2 s4 s5 s6 s7 h2 => h ms2 mx2 s4 s5 s6 s7 ?_
      all_goals (unfold rngD at h'; simp at h'; omega)
    · rw [decide_eq_false e]
      placed_of0
      refine w_kApp (by rw [List.length_map]; omega) (show _ = [.va (scr ns), s1, .ow ((ms ++ [c.fmod 997]).map PyData.int), .va (.int mx'), .va (.int (0 + (k : Int))), .va (.int c), .va (.int 0), s7] by rw [List.map_append]; rfl) ?_
      placed_of0
      · exact cmul (k := 17) (l := 17) (sm_of (by simp; omega) (by simp; omega)) (sm_of (by decide) (by decide)) (by decide)
      placed_of0
      refine w_kApp (by rw [List.length_map, List.length_append, List.length_singleton]; omega) (show _ = [.va (scr ns), s1, .ow ((ms ++ [c.fmod 997] ++ [((mx' * 69621 + 5).fmod 65521).fmod 997]).map PyData.int), .va (.int mx'), .va (.int (0 + (k : Int))), .va (.int c), .va (.int 0), s7] by rw [List.map_append, List.map_append, List.map_append]; rfl) ?_
      placed_of0
      refine digits_loop _ (ms ++ [c.fmod 997] ++ [((mx' * 69621 + 5).fmod 65521).fmod 997]) _ _ (by unfold rngD; simp; omega) fun ms' r s7 h' => ?_
      placed_of0
      refine draw_loop n (k + 1) ms' _ _ _ _ _ (by omega) ?_ hm.1 hm.2 fun ms2 mx2 s4 s5 s6 s7 h2 => h ms2 mx2 s4 s5 s6 s7 ?_
      all_goals (unfold rngD at h'; simp at h'; omega)
def moreBody : MS := (sSeq (sAsg (eOp fMod (eCall fInt (aCons (eOp fAdd (eOp fAdd (eOp fMul (eVar 3) (eC (.int 16807))) (eVar 4)) (eC (.int 1))) aNil)) (eC (.int 65537))) (mgName 3)) (sApp 2 (aCons (eOp fMod (eCall fInt (aCons (eVar 3) aNil)) (eC (.int 997))) aNil)))
theorem more_loop {s0 s1 s5 s6 s7 : Sl} {P : Po} : ∀ (ks : List Int) (ms : List Int) (mx : Int) (s4 : Sl), ms.length + ks.length < 90000 → 0 ≤ mx → mx < 65537 →
    (∀ (ms' : List Int) (mx : Int) (s4 : Sl), ms'.length ≤ ms.length + ks.length → P.nx [s0, s1, .ow (ms'.map PyData.int), .va (.int mx), s4, s5, s6, s7]) →
    forW (mgName 4) moreBody (ks.map PyData.int) [s0, s1, .ow (ms.map PyData.int), .va (.int mx), s4, s5, s6, s7] P
  | [], ms, mx, s4, hl, m0, m1, h => by
    obtain ⟨nx, rt, bk, ct⟩ := P
    exact h ms mx s4 (by simp)
  | k :: ks, ms, mx, s4, hl, m0, m1, h => by
    obtain ⟨nx, rt, bk, ct⟩ := P
    rw [List.length_cons] at hl
    rw [List.map_cons]
    refine w_forC ?_
    tb_rel
    unfold moreBody
    placed_of0
    · exact cmul (k := 17) (l := 17) (sm_of (by simp; omega) (by simp; omega)) (sm_of (by decide) (by decide)) (by decide)
    placed_of0
    have hm := fmod_bd (mx * 16807 + k + 1) (y := 65537) (by decide)
    refine w_kApp (by rw [List.length_map]; omega) (show _ = [s0, s1, .ow ((ms ++ [((mx * 16807 + k + 1).fmod 65537).fmod 997]).map PyData.int), .va (.int ((mx * 16807 + k + 1).fmod 65537)), .va (.int k), s5, s6, s7] by rw [List.map_append]; rfl) ?_
    placed_of0
    exact more_loop ks (ms ++ [((mx * 16807 + k + 1).fmod 65537).fmod 997]) _ _ (by rw [List.length_append, List.length_singleton]; omega) hm.1 hm.2 fun ms' mx s4 h' => h ms' mx s4 (by rw [List.length_append, List.length_singleton] at h'; rw [List.length_cons]; omega)
theorem cutD_ints {ms : List Int} {n : Int} : ∃ ms' : List Int, cutD (ms.map PyData.int) none (some n) = ms'.map PyData.int ∧ ms'.length ≤ ms.length := by
  unfold cutD
  generalize HT.sIx (ms.map PyData.int).length (ms.map PyData.int).length (some n) - HT.sIx (ms.map PyData.int).length 0 none = a
  generalize HT.sIx (ms.map PyData.int).length 0 none = b
  exact ⟨(ms.drop b).take a, by rw [List.map_take, List.map_drop], by rw [List.length_take, List.length_drop]; omega⟩
theorem draws_ok {ns : List Int} {many : Int} (hn : ns.length ≤ 63) (h0 : 0 ≤ many) (h1 : many ≤ 2000) (h : ∀ ms : List Int, ms.length ≤ 80000 → Q (.list (ms.map PyData.int))) : F__law_draws [scr ns, .int many] Q := by
  unfold F__law_draws
  placed_of0
  refine w_lenD ?_
  placed_of0
  refine w_kR1 (by omega) (by omega) ?_
  rw [rngD_range']
  refine draw_loop (ns := ns) ns.length 0 [] 7 _ _ _ _ (by omega) (by simp; omega) (by decide) (by decide) fun ms mx s4 s5 s6 s7 hl m0 m1 => ?_
  rw [List.length_nil] at hl
  placed_of0
  refine w_kR1 (by omega) (by omega) ?_
  rw [show rngD 0 many.toNat = ((List.range many.toNat).map fun i : Nat => (0 : Int) + (i : Int)).map PyData.int by unfold rngD; rw [List.map_map]; rfl]
  refine more_loop _ ms mx _ (by rw [List.length_map, List.length_range]; omega) m0 m1 fun ms' mx' s4 h' => ?_
  rw [List.length_map, List.length_range] at h'
  placed_of0
  obtain ⟨ms2, e2, l2⟩ := cutD_ints (ms := ms') (n := many)
  rw [e2]
  exact h ms2 (by omega)
end
local macro_rules | `(tactic| pv_isi_meta) => `(tactic| (show (_ : Int) ≠ 0; decide))

section
variable {k l n ka kb kc kd ke kf : Nat} {a b c d e f g m p q r s t u v x y z p' q' r' s' C X Y M N : Rat} {Q : D → Prop} {D1 D2 : D}
/-! ### bent curves -/
theorem atI_mem {ds : List D} {i : Int} (h0 : 0 ≤ i) (h1 : i < (ds.length : Nat)) : ∃ d, d ∈ ds ∧ atI ds i = some d := by
  have e : ixN ds.length i = some i.toNat := by
    unfold ixN
    rw [if_pos (by omega), if_pos (by omega)]
  refine ⟨ds[i.toNat]'(by omega), List.getElem_mem _, ?_⟩
  unfold atI
  rw [e]
  show ds[i.toNat]? = _
  exact List.getElem?_eq_getElem _
theorem pick_ok {ds : List D} (h0 : 0 < ds.length) (h : ∀ d ∈ ds, Q d) : F__law_pick [wD, .list ds] Q := by
  unfold F__law_pick
  placed_of0
  refine next_ok (by omega) fun i i0 i1 => ?_
  obtain ⟨d, hd, e⟩ := atI_mem i0 i1
  exact w_ixL e (h d hd)
/-- a third part as the law picks it, and what stands for it in the numbers -/
structure Cok (c C : Rat) : Prop where
  c0 : 0 ≤ c
  bc : bz 4 c
  n : Nsq C
  bC : bz 4 C
  kind : C = c ∨ c = 4 ∨ c = 0
theorem is_fraction_22 (h : Q (.bool false)) : F_is_fraction [.tuple [.int 2, .int 2]] Q := by
  unfold F_is_fraction
  placed_of0
  refine sp_is_number _ ?_
  placed_of0
  refine sp_is_number _ ?_
  placed_of0
  refine sp_common ?_
  rw [show ((Int.gcd 2 2 : Nat) : Int) = 2 from rfl]
  placed_of0
  exact h
instance : Stp (fInT true (.int 2) (.tuple [.int 0, .int 1]) Q) (Q (.bool true)) := ⟨fun q => q⟩
theorem bent_2 (h : Q (.bool false)) : F_is_curve [.tuple [.int 2, dr a, dr b, dr c]] Q := by
  unfold F_is_curve
  placed_of0
  rw [show cutD [PyData.int 2, dr a, dr b, dr c] (some 1) none = [dr a, dr b, dr c] from rfl]
  placed_of1
  exact h
theorem bent_t (h : Q (.bool false)) : F_is_curve [.tuple [.bool true, dr a, dr b, dr c]] Q := by
  unfold F_is_curve
  placed_of0
  rw [show cutD [PyData.bool true, dr a, dr b, dr c] (some 1) none = [dr a, dr b, dr c] from rfl]
  placed_of1
  exact h
theorem bent_22 {i : Int} (h : Q (.bool false)) : F_is_curve [.tuple [.int i, .tuple [.int 2, .int 2], dr b, dr c]] Q := by
  unfold F_is_curve
  placed_of0
  rw [show cutD [PyData.int i, .tuple [.int 2, .int 2], dr b, dr c] (some 1) none = [.tuple [.int 2, .int 2], dr b, dr c] from rfl]
  placed_of0
  refine is_fraction_22 ?_
  placed_of1
  exact h
theorem bent_ln (h1 : a ≠ 1) (h2 : a ≠ 0 ∨ b ≠ 1) (h : Q (.bool false)) : F_is_curve [ln a b c] Q := by
  unfold F_is_curve
  placed_of0
  rw [show cutD [PyData.int 0, dr a, dr b, dr c] (some 1) none = [dr a, dr b, dr c] from rfl]
  placed_of1
  rw [lit11, eqv_dr, decide_eq_false h1]
  placed_of1
  rw [dr_ne0]
  by_cases a0 : a = 0
  · rw [decide_eq_true a0]
    placed_of1
    rw [lit11, eqv_dr, decide_eq_false (h2.resolve_left (fun z => z a0))]
    exact h
  · rw [decide_eq_false a0]
    placed_of1
    exact h
theorem bent_ok {i : Int} (h : ∀ d, (∀ Q : D → Prop, Q (.bool false) → F_is_curve [d] Q) → Q d) : F__law_bent [wD, cu i a b c] Q := by
  unfold F__law_bent
  placed_of0
  rw [show cutD [PyData.int i, dr a, dr b, dr c] (some 1) none = [dr a, dr b, dr c] from rfl, show cutD [PyData.int i, dr a, dr b, dr c] none (some 3) = [.int i, dr a, dr b] from rfl]
  refine w_catT (Nat.le_of_ble_eq_true rfl) ?_
  placed_of0
  rw [show cutD [PyData.int i, dr a, dr b, dr c] (some 1) none = [dr a, dr b, dr c] from rfl]
  refine w_catT (Nat.le_of_ble_eq_true rfl) ?_
  placed_of0
  rw [show cutD [PyData.int i, dr a, dr b, dr c] none (some 1) = [.int i] from rfl]
  refine w_catT (Nat.le_of_ble_eq_true rfl) ?_
  placed_of0
  rw [show cutD [PyData.int i, dr a, dr b, dr c] (some 2) none = [dr b, dr c] from rfl]
  refine w_catT (Nat.le_of_ble_eq_true rfl) ?_
  placed_of0
  · exact Nat.le_of_ble_eq_true rfl
  placed_of0
  refine pick_ok (Nat.zero_lt_succ _) (fun d hd => h d fun Q hq => ?_)
  simp only [List.cons_append, List.nil_append, List.mem_cons, List.not_mem_nil, or_false] at hd
  rcases hd with e | e | e | e | e | e | e | e | e <;> subst e
  · unfold F_is_curve
    placed_of0
    exact hq
  · exact bent_2 hq
  · exact bent_t hq
  · unfold F_is_curve
    placed_of0
    exact hq
  · exact bent_22 hq
  · exact bent_ln (a := 0) (b := 0) (c := 1) (by decide) (.inr (by decide)) hq
  · exact bent_ln (a := 2) (b := 1) (c := 0) (by decide) (.inl (by decide)) hq
  · refine is_curve_ci (a := 0) (b := 0) (c := 0) (k := 1) bz_0 bz_0 bz_0 (by decide) ?_
    rw [decide_eq_false (by grind)]
    exact hq
  · unfold F_is_curve
    placed_of0
    exact hq
end

section
variable {k l n ka kb kc kd ke kf : Nat} {a b c d e f g m p q r s t u v x y z p' q' r' s' C X Y M N : Rat} {Q : D → Prop} {D1 D2 : D}
theorem drawn_ok (h : ∀ d1 d2, Cv d1 → Cv d2 → Q (.tuple [d1, d2])) : F__law_drawn [wD] Q := by
  unfold F__law_drawn
  placed_of0
  have rest : ∀ d1, Cv d1 → sRet (eTup (aCons (eVar 1) (aCons (eCallN 1 F__law_curve (aCons (eVar 0) aNil)) aNil))) [.va wD, .va d1, .no, .no, .no, .no, .no, .no, .no, .no] ⟨fun x => Q PyData.none, Q, fun x => False, fun x => False⟩ := by
    intro d1 h1
    placed_of0
    refine curve_ok (fun a b c hl => ?_) fun x y r _ _ _ _ hc => ?_
    · placed_of0
      exact h _ _ h1 (.l hl)
    · placed_of0
      exact h _ _ h1 (.c hc)
  refine curve_ok (fun a b c hl => ?_) fun x y r hx hy hfx hfy hc => ?_
  · repeat (first | (with_reducible exact rest _ (.l hl)) | tb_rel | tb_start)
  · placed_of0
    refine next_ok (by decide) fun i i0 i1 => ?_
    placed_of0
    rw [eqv_int]
    by_cases hi : i = 0
    · rw [decide_eq_true hi]
      placed_of0
      refine lmiddle_ok (k := 5) (bz_mul bz_m2 hx) (bz_mul bz_m2 hy) (by decide) ?_
      placed_of0
      refine next_ok (by decide) fun j j0 j1 => ?_
      placed_of0
      rw [dr_int]
      have hj : bz 3 ((1 + j : Int) : Rat) := bz_int (sm_of (by simp; omega) (by simp; omega)) (by decide)
      obtain ⟨n, hn, n0, n1⟩ := id hfx
      obtain ⟨m, hm, m0, m1⟩ := id hfy
      rw [show -(-2 * x) / 2 = x by grind, show -(-2 * y) / 2 = y by grind]
      have eF : ((1 + j : Int) : Rat) = ((1 + j : Int) : Rat) := rfl
      obtain ⟨F, hF⟩ : ∃ F : Rat, F = ((1 + j : Int) : Rat) := ⟨_, rfl⟩
      rw [← hF] at hj ⊢
      have j2 : (1 + j) * (1 + j) ≤ 16 := by have := Int.mul_nonneg (show 0 ≤ 3 - j by omega) (show 0 ≤ 5 + j by omega); grind
      have j3 : 0 < (1 + j) * (1 + j) := Int.mul_pos (by omega) (by omega)
      have k0 : CiOk (-2 * x) (-2 * y) (x * x + y * y - F * F) := ciok_of (l := 4 * ((1 + j) * (1 + j))) hn hm (by rw [hF, Rat.intCast_mul, Rat.intCast_mul, show ((4 : Int) : Rat) = 4 from rfl]; grind) (by omega) (by omega) m0 m1 (by omega) (by omega)
      have k1 : CiOk (-2 * (x + F * 2)) (-2 * y) ((x + F * 2) * (x + F * 2) + y * y - F * F) := ciok_of (n := n + 4 * (1 + j)) (l := 4 * ((1 + j) * (1 + j))) (by rw [hn, hF, Rat.intCast_add n, Rat.intCast_mul, show ((4 : Int) : Rat) = 4 from rfl]; grind) hm (by rw [hF, Rat.intCast_mul, Rat.intCast_mul, show ((4 : Int) : Rat) = 4 from rfl]; grind) (by omega) (by omega) m0 m1 (by omega) (by omega)
      have k2 : CiOk (-2 * (x + F)) (-2 * y) ((x + F) * (x + F) + y * y - F * F * 4) := ciok_of (n := n + 2 * (1 + j)) (l := 16 * ((1 + j) * (1 + j))) (by rw [hn, hF, Rat.intCast_add n, Rat.intCast_mul, show ((2 : Int) : Rat) = 2 from rfl]; grind) hm (by rw [hF, Rat.intCast_mul, Rat.intCast_mul, show ((16 : Int) : Rat) = 16 from rfl]; grind) (by omega) (by omega) m0 m1 (by omega) (by omega)
      have bF2 : bz 6 (F * F) := bz_mul hj hj
      have bE : bz 7 (x + F) := bz_add hx hj
      have bB : bz 9 (x + F * 2) := bz_add hx (bz_mul hj bz_2)
      placed_of1
      rw [lit21]
      placed_of1
      refine lcircle_ok (k := 9) bB (bz_mono hy (by decide)) (bz_mono bF2 (by decide)) (by decide) ?_
      placed_of0
      rw [lit11, lit01, show PyData.tuple [.int (0 - (x + F).num), .int (((x + F).den : Nat) : Int)] = dr (-(x + F)) by unfold dr; rw [Rat.neg_num, Rat.neg_den, Int.zero_sub]]
      refine lline_ok (k := 7) (by decide) (bz_mono bz_1 (by decide)) (bz_mono bz_0 (by decide)) (bz_neg bE) (by decide) ?_
      have k3 : LnOk (1 / fst' 1 0) (0 / fst' 1 0) (-(x + F) / fst' 1 0) := by
        have e1 : fst' 1 0 = 1 := by unfold fst'; rw [if_neg (by decide)]
        rw [e1, show (1 : Rat) / 1 = 1 by grind, show (0 : Rat) / 1 = 0 by grind, show -(x + F) / 1 = -(x + F) by grind]
        refine ⟨.inl rfl, bz_mono bz_1 (by decide), bz_mono bz_0 (by decide), ?_⟩
        have e2 : x + F = Rat.divInt (n + 2 * (1 + j)) 2 := by
          rw [(half_int _).2, hn, hF, Rat.intCast_add n, Rat.intCast_mul, show ((2 : Int) : Rat) = 2 from rfl]; grind
        rw [e2]
        exact bz_neg (bz_div (by decide) (sm_of (by simp; omega) (by simp; omega)) (sm_of (by decide) (by decide)))
      placed_of1
      rw [show PyData.tuple [.int 4, .int 1] = dr 4 from rfl]
      placed_of1
      refine lcircle_ok (k := 9) (bz_mono bE (by decide)) (bz_mono hy (by decide)) (bz_mono (bz_mul bF2 bz_4) (by decide)) (by decide) ?_
      placed_of0
      refine lcircle_ok (k := 9) (bz_mono hx (by decide)) (bz_mono hy (by decide)) (bz_mono bF2 (by decide)) (by decide) ?_
      placed_of0
      refine pick_ok (Nat.zero_lt_succ _) (fun d hd => ?_)
      simp only [List.mem_cons, List.not_mem_nil, or_false] at hd
      rcases hd with e | e | e <;> subst e <;> placed_of0
      · exact h _ _ (.c k0) (.c k1)
      · exact h _ _ (.c k0) (.l k3)
      · exact h _ _ (.c k0) (.c k2)
    · rw [decide_eq_false hi]
      repeat (first | (with_reducible exact rest _ (.c hc)) | tb_rel | tb_start)
end

theorem forW_inv {g : MG} {b : MS} {nx bk ct : En → Prop} {rt : D → Prop} (I : En → Prop) (J : D → Prop) (hb : ∀ d ρ nx' ct', J d → I ρ → (∀ ρ', I ρ' → nx' ρ') → (∀ ρ', I ρ' → ct' ρ') → g d ρ fun ρ1 => b ρ1 ⟨nx', rt, nx, ct'⟩) (hn : ∀ ρ, I ρ → nx ρ) : ∀ (ds : List D) (ρ : En), I ρ → (∀ d ∈ ds, J d) → forW g b ds ρ ⟨nx, rt, bk, ct⟩
  | [], ρ, h, _ => hn ρ h
  | d :: ds, ρ, h, hJ => hb d ρ _ _ (hJ d List.mem_cons_self) h (fun ρ' h' => forW_inv I J hb hn ds ρ' h' fun x hx => hJ x (List.mem_cons_of_mem _ hx)) (fun ρ' h' => forW_inv I J hb hn ds ρ' h' fun x hx => hJ x (List.mem_cons_of_mem _ hx))
section
variable {k l n ka kb kc kd ke kf : Nat} {a b c d e f g m p q r s t u v x y z p' q' r' s' C X Y M N : Rat} {Q : D → Prop} {D1 D2 : D}
/-! ### turns, and the whole -/
/-- the point of a circle farthest left or right -/
def Trn (a b c : Rat) (d : D) : Prop := ∃ p q C, d = pn p q (-b / 2) 0 C ∧ PB p q (-b / 2) 0 C ∧ OnC a b c p q (-b / 2) 0 C
theorem pb_plain (hx : bz 20 x) (hy : bz 20 y) : PB x 0 y 0 2 := pb_1 (A := 20) (B := 1) (R := 2) nsq_2 hx bz_0 bz_2 (bz_mono hy (by decide)) (bz_mono bz_0 (by decide)) (by decide)
theorem one_root (h : CiOk a b c) (he : e = 1 ∨ e = -1) (hQ : ∀ p q C, Nsq C → Trn a b c (pn p q (-b / 2) 0 C) → Q (nrm p q C)) : F_tidy [dr (-a / 2), dr e, dr (rad a b c)] Q := by
  obtain ⟨b1, b2, b3⟩ := h.bs
  have h1 : bz 7 (-a / 2) := bz_over (bz_neg b1) bz_2 (by decide)
  have h2 : bz 7 (-b / 2) := bz_over (bz_neg b2) bz_2 (by decide)
  have hr : bz 40 (rad a b c) := bz_mono (by unfold rad; dl_puts) (by decide)
  have be : bz 1 e := by rcases he with e | e <;> rw [e]; exact bz_1; exact bz_neg bz_1
  have e2 : e * e = 1 := by rcases he with e | e <;> rw [e] <;> grind
  have hp := h.2.2.2
  have er : rad a b c = -a / 2 * (-a / 2) + -b / 2 * (-b / 2) - c := rfl
  generalize rad a b c = R at *
  rcases nsq_or hp with ⟨s, s0, es⟩ | hN
  · subst es
    have bs := bz_sqrt hr
    refine sp_tidy_sq s0 hr (bz_mono bs (by decide)) h1 be (by decide) ?_
    refine hQ (-a / 2 + e * s) 0 2 nsq_2 ⟨_, _, _, rfl, pb_1 (A := 40) (B := 1) (R := 2) nsq_2 (bz_mono (bz_add h1 (bz_mul be bs)) (by decide)) bz_0 bz_2 (bz_mono h2 (by decide)) (bz_mono bz_0 (by decide)) (by decide), ?_⟩
    have e3 : e * s * (e * s) = s * s := by grind
    unfold OnC
    constructor <;> grind
  · refine sp_tidy hN hr (by decide) ?_
    refine hQ (-a / 2) e R hN ⟨_, _, _, rfl, pb_1 (A := 40) (B := 1) (R := 40) hN (bz_mono h1 (by decide)) be hr (bz_mono h2 (by decide)) (bz_mono bz_0 (by decide)) (by decide), ?_⟩
    unfold OnC
    constructor <;> grind
theorem turns_ci (h : CiOk a b c) (hQ : ∀ d1 d2, Trn a b c d1 → Trn a b c d2 → Q (.list [d1, d2])) : F_turns_of [ci a b c] Q := by
  obtain ⟨b1, b2, b3⟩ := h.bs
  unfold F_turns_of
  placed_of0
  refine middle_ok (k := 5) b1 b2 (by decide) ?_
  placed_of0
  refine radius_ok (k := 10) (bz_mono b1 (by decide)) (bz_mono b2 (by decide)) b3 (by decide) ?_
  rw [show -a / 2 * (-a / 2) + -b / 2 * (-b / 2) - c = rad a b c from rfl]
  placed_of0
  rw [show PyData.tuple [.int (-1), .int 1] = dr (-1) from rfl]
  refine one_root h (.inr rfl) fun p q C hC h1 => ?_
  placed_of0
  refine sp_plain ?_
  placed_of0
  rw [lit11]
  refine one_root h (.inl rfl) fun p' q' C' hC' h2 => ?_
  placed_of0
  refine sp_plain ?_
  placed_of0
  exact hQ _ _ h1 h2
theorem turns_ln (hQ : Q (.list [])) : F_turns_of [ln a b c] Q := by
  unfold F_turns_of
  placed_of0
  exact hQ
theorem cmp_mid (hC : Nsq C) (h : bz 7 y) (hq : Q (.int 0)) : F__law_compare [nrm y 0 C, rt y 0 0] Q := by
  rw [nrm_0]
  refine sp__law_compare (by decide) (by decide) h bz_0 bz_0 h bz_0 bz_0 (by decide) ?_
  rw [cmp_val (by decide) (by decide), show val y 0 0 - val y 0 0 = 0 by grind, sr_zero]
  exact hq
theorem eqv_rt (x y : Rat) : PyData.eqv (.tuple [rt x 0 0, rt y 0 0]) (.tuple [rt x 0 0, rt y 0 0]) = true := by
  show (PyData.eqv (rt x 0 0) (rt x 0 0) && (PyData.eqv (rt y 0 0) (rt y 0 0) && true)) = true
  have e : ∀ z, PyData.eqv (rt z 0 0) (rt z 0 0) = true := fun z => by
    show (PyData.eqv (dr z) (dr z) && (PyData.eqv (dr 0) (dr 0) && (PyData.eqv (dr 0) (dr 0) && true))) = true
    rw [eqv_dr, eqv_dr, decide_eq_true rfl, decide_eq_true rfl]; rfl
  rw [e, e]; rfl
/-- what stands at the end of each turn -/
abbrev tailM : MS := (sSeq (sPar 5 6 (aCons (eCallN 1 F__law_small (aCons (eVar 1) aNil)) (aCons (eCallN 1 F__law_small (aCons (eVar 1) aNil)) aNil))) (sIf (mOr (eT (eOp fNe (eCallN 2 F_point_of (aCons (eVar 5) (aCons (eVar 6) aNil))) (eCallN 2 F__law_point (aCons (eVar 5) (aCons (eVar 6) aNil))))) (mOr (eT (eOp fNe (eCallN 2 F_sign_at (aCons (eVar 3) (aCons (eCallN 2 F__law_point (aCons (eVar 5) (aCons (eVar 6) aNil))) aNil))) (eCallN 2 F__law_side (aCons (eVar 3) (aCons (eCallN 2 F__law_point (aCons (eVar 5) (aCons (eVar 6) aNil))) aNil))))) (eT (eOp fNotB (eCallN 1 F_is_curve (aCons (eCallN 2 F__law_bent (aCons (eVar 1) (aCons (eVar 3) aNil))) aNil)) (eC (.bool false)))))) (sRet (eC (.bool false))) sNext))
theorem point_of_ok (h : Q (.tuple [rt x 0 0, rt y 0 0])) : F_point_of [dr x, dr y] Q := by
  unfold F_point_of
  placed_of0
  refine sp_plain ?_
  placed_of0
  refine sp_plain ?_
  placed_of0
  exact h
theorem tail_ok {k : Int} {s0 s2 s4 s5 s6 s7 s8 s9 : Sl} {P : Po} (hsd : ∀ x y, bz 3 x → bz 3 y → ∃ i : Int, (∀ Q : D → Prop, Q (.int i) → F_sign_at [cu k a b c, .tuple [rt x 0 0, rt y 0 0]] Q) ∧ (∀ Q : D → Prop, Q (.int i) → F__law_side [cu k a b c, .tuple [rt x 0 0, rt y 0 0]] Q))
    (h : ∀ s5 s6, P.nx [s0, .va wD, s2, .va (cu k a b c), s4, s5, s6, s7, s8, s9]) : tailM [s0, .va wD, s2, .va (cu k a b c), s4, s5, s6, s7, s8, s9] P := by
  obtain ⟨nx, rt', bk, ct⟩ := P
  unfold tailM
  placed_of0
  refine small_ok fun x hx => ?_
  placed_of0
  refine small_ok fun y hy => ?_
  placed_of0
  refine point_of_ok ?_
  placed_of0
  refine lpoint_ok ?_
  placed_of0
  rw [eqv_rt, Bool.not_true]
  placed_of0
  refine lpoint_ok ?_
  placed_of0
  obtain ⟨i, h1, h2⟩ := hsd x y hx hy
  refine h1 _ ?_
  placed_of0
  refine lpoint_ok ?_
  placed_of0
  refine h2 _ (ne_int ?_)
  placed_of0
  refine bent_ok fun d hd => ?_
  placed_of0
  refine hd _ ?_
  placed_of0
  exact h _ _
end

section
variable {k l n ka kb kc kd ke kf : Nat} {a b c d e f g m p q r s t u v x y z p' q' r' s' C X Y M N : Rat} {Q : D → Prop} {D1 D2 : D}
theorem eqv_lc (a b c d e f : Rat) : PyData.eqv (ln a b c) (ci d e f) = false := rfl
theorem eqv_cl (a b c d e f : Rat) : PyData.eqv (ci a b c) (ln d e f) = false := rfl
theorem sides_ci (h : CiOk a b c) : ∀ x y, bz 3 x → bz 3 y → ∃ i : Int, (∀ Q : D → Prop, Q (.int i) → F_sign_at [ci a b c, .tuple [rt x 0 0, rt y 0 0]] Q) ∧ (∀ Q : D → Prop, Q (.int i) → F__law_side [ci a b c, .tuple [rt x 0 0, rt y 0 0]] Q) := fun x y hx hy => by
  obtain ⟨b1, b2, b3⟩ := h.bs
  have hp := pb_plain (x := x) (y := y) (bz_mono hx (by decide)) (bz_mono hy (by decide))
  exact ⟨_, fun Q hq => sside_ci hp b1 b2 b3 hq, fun Q hq => lside_ci hp b1 b2 b3 hq⟩
theorem sides_ln (h : LnOk a b c) : ∀ x y, bz 3 x → bz 3 y → ∃ i : Int, (∀ Q : D → Prop, Q (.int i) → F_sign_at [ln a b c, .tuple [rt x 0 0, rt y 0 0]] Q) ∧ (∀ Q : D → Prop, Q (.int i) → F__law_side [ln a b c, .tuple [rt x 0 0, rt y 0 0]] Q) := fun x y hx hy => by
  obtain ⟨_, b1, b2, b3⟩ := h
  have hp := pb_plain (x := x) (y := y) (bz_mono hx (by decide)) (bz_mono hy (by decide))
  exact ⟨_, fun Q hq => sside_ln hp (bz_mono b1 (by decide)) (bz_mono b2 (by decide)) (bz_mono b3 (by decide)) hq, fun Q hq => lside_ln hp (bz_mono b1 (by decide)) (bz_mono b2 (by decide)) (bz_mono b3 (by decide)) hq⟩
theorem meets_any (h1 : Cv D1) (h2 : Cv D2) (h0 : PyData.eqv D1 D2 = false) (h : Q (.bool true)) : F__law_meets [wD, D1, D2] Q := by
  cases h1 with
  | l h1 =>
    cases h2 with
    | l h2 => exact lmeets_ll h1 h2 h
    | c h2 => exact lmeets_lc h1 h2 h
  | c h1 =>
    cases h2 with
    | l h2 => exact lmeets_cl h2 h1 h
    | c h2 =>
      rw [eqv_ci] at h0
      exact lmeets_cc (of_decide_eq_false h0) h1 h2 h
theorem hd_law : ∀ ns : List Int, ns.length ≤ 63 → D_law (env0 10 [scr ns]) IsDraws := by
  intro ns hn
  rw [show env0 10 [scr ns] = [.va (scr ns), .no, .no, .no, .no, .no, .no, .no, .no, .no] from rfl]
  unfold D_law
  placed_of0
  exact draws_ok hn (by decide) (by decide) fun ms hm => ⟨ms, rfl, by omega⟩
theorem line_mul {t : Rat} (h : LnOk a b c) (ht : t ≠ 0) (hb : bz 4 t) (hk : Q (.tuple [ln a b c, .bool (decide (t.num < 0))])) : F_line [dr (a * t), dr (b * t), dr (c * t)] Q := by
  obtain ⟨h1, b1, b2, b3⟩ := h
  have h0 : ¬ (a * t = 0 ∧ b * t = 0) := fun z => by
    rcases h1 with h1 | ⟨h1, h2⟩
    · rw [h1] at z; grind
    · rw [h2] at z; grind
  have ef : fst' (a * t) (b * t) = t := by
    unfold fst'
    rcases h1 with h1 | ⟨h1, h2⟩
    · rw [h1, if_neg (by grind)]; grind
    · rw [h1, h2, if_pos (by grind)]; grind
  unfold F_line
  tb_rel
  refine xline_ok (k := 10) (bz_mono (bz_mul b1 hb) (by decide)) (bz_mono (bz_mul b2 hb) (by decide)) (bz_mul b3 hb) (by decide) (fun z => (h0 z).elim) fun _ => ?_
  rw [ef, show a * t / t = a by grind, show b * t / t = b by grind, show c * t / t = c by grind]
  placed_of0
  exact hk
theorem eqv_lnb {t t' : Bool} (e : t = t') : PyData.eqv (.tuple [ln a b c, .bool t]) (.tuple [ln a b c, .bool t']) = true := by
  subst e
  show (PyData.eqv (ln a b c) (ln a b c) && ((t == t) && true)) = true
  rw [eqv_ln, decide_eq_true ⟨rfl, rfl, rfl⟩, beq_self_eq_true]; rfl
abbrev meetM : MS := (sSeq (sIf (mAnd (eT (eOp fNe (eVar 3) (eVar 4))) (mNot (eT (eCallN 3 F__law_meets (aCons (eVar 1) (aCons (eVar 3) (aCons (eVar 4) aNil))))))) (sRet (eC (.bool false))) sNext) (sSeq (sAsg (eCallN 1 F_turns_of (aCons (eVar 3) aNil)) (mgName 8)) (sSeq (sIf (eT (eOp fNe (eCall fLen (aCons (eVar 8) aNil)) (eOp fMul (eC (.int 2)) (eOp fIx (eVar 3) (eC (.int 0)))))) (sRet (eC (.bool false))) sNext) (sSeq (sFor (itL (eVar 8)) (mgName 9) (sIf (mOr (eT (eOp fNe (eCallN 2 F__law_side (aCons (eVar 3) (aCons (eVar 9) aNil))) (eC (.int 0)))) (eT (eOp fNe (eCallN 2 F__law_compare (aCons (eOp fIx (eVar 9) (eC (.int 1))) (aCons (eTup (aCons (eOp fIx (eCallN 1 F__law_middle (aCons (eVar 3) aNil)) (eC (.int 1))) (aCons (eTup (aCons (eC (.int 0)) (aCons (eC (.int 1)) aNil))) (aCons (eTup (aCons (eC (.int 0)) (aCons (eC (.int 1)) aNil))) aNil)))) aNil))) (eC (.int 0))))) (sRet (eC (.bool false))) sNext)) (sSeq (sPar 5 6 (aCons (eCallN 1 F__law_small (aCons (eVar 1) aNil)) (aCons (eCallN 1 F__law_small (aCons (eVar 1) aNil)) aNil))) (sIf (mOr (eT (eOp fNe (eCallN 2 F_point_of (aCons (eVar 5) (aCons (eVar 6) aNil))) (eCallN 2 F__law_point (aCons (eVar 5) (aCons (eVar 6) aNil))))) (mOr (eT (eOp fNe (eCallN 2 F_sign_at (aCons (eVar 3) (aCons (eCallN 2 F__law_point (aCons (eVar 5) (aCons (eVar 6) aNil))) aNil))) (eCallN 2 F__law_side (aCons (eVar 3) (aCons (eCallN 2 F__law_point (aCons (eVar 5) (aCons (eVar 6) aNil))) aNil))))) (eT (eOp fNotB (eCallN 1 F_is_curve (aCons (eCallN 2 F__law_bent (aCons (eVar 1) (aCons (eVar 3) aNil))) aNil)) (eC (.bool false)))))) (sRet (eC (.bool false))) sNext))))))
theorem meet_go (h1 : Cv D1) (h2 : Cv D2) {s0 s2 s5 s6 s7 s8 s9 : Sl} {P : Po}
    (h : (sSeq (sAsg (eCallN 1 F_turns_of (aCons (eVar 3) aNil)) (mgName 8)) (sSeq (sIf (eT (eOp fNe (eCall fLen (aCons (eVar 8) aNil)) (eOp fMul (eC (.int 2)) (eOp fIx (eVar 3) (eC (.int 0)))))) (sRet (eC (.bool false))) sNext) (sSeq (sFor (itL (eVar 8)) (mgName 9) (sIf (mOr (eT (eOp fNe (eCallN 2 F__law_side (aCons (eVar 3) (aCons (eVar 9) aNil))) (eC (.int 0)))) (eT (eOp fNe (eCallN 2 F__law_compare (aCons (eOp fIx (eVar 9) (eC (.int 1))) (aCons (eTup (aCons (eOp fIx (eCallN 1 F__law_middle (aCons (eVar 3) aNil)) (eC (.int 1))) (aCons (eTup (aCons (eC (.int 0)) (aCons (eC (.int 1)) aNil))) (aCons (eTup (aCons (eC (.int 0)) (aCons (eC (.int 1)) aNil))) aNil)))) aNil))) (eC (.int 0))))) (sRet (eC (.bool false))) sNext)) (sSeq (sPar 5 6 (aCons (eCallN 1 F__law_small (aCons (eVar 1) aNil)) (aCons (eCallN 1 F__law_small (aCons (eVar 1) aNil)) aNil))) (sIf (mOr (eT (eOp fNe (eCallN 2 F_point_of (aCons (eVar 5) (aCons (eVar 6) aNil))) (eCallN 2 F__law_point (aCons (eVar 5) (aCons (eVar 6) aNil))))) (mOr (eT (eOp fNe (eCallN 2 F_sign_at (aCons (eVar 3) (aCons (eCallN 2 F__law_point (aCons (eVar 5) (aCons (eVar 6) aNil))) aNil))) (eCallN 2 F__law_side (aCons (eVar 3) (aCons (eCallN 2 F__law_point (aCons (eVar 5) (aCons (eVar 6) aNil))) aNil))))) (eT (eOp fNotB (eCallN 1 F_is_curve (aCons (eCallN 2 F__law_bent (aCons (eVar 1) (aCons (eVar 3) aNil))) aNil)) (eC (.bool false)))))) (sRet (eC (.bool false))) sNext))))) [s0, .va wD, s2, .va D1, .va D2, s5, s6, s7, s8, s9] P) : meetM [s0, .va wD, s2, .va D1, .va D2, s5, s6, s7, s8, s9] P := by
  obtain ⟨nx, rt', bk, ct⟩ := P
  unfold meetM
  have fin : ∀ e : PyData.eqv D1 D2 = false, F__law_meets [wD, D1, D2] = F__law_meets [wD, D1, D2] := fun _ => rfl
  cases h1 with
  | l h1 =>
    cases h2 with
    | l h2 =>
      placed_of0
      rw [eqv_ln]
      rename_i a b c d e f
      by_cases h0 : a = d ∧ b = e ∧ c = f
      · rw [decide_eq_true h0]
        repeat (first | (with_reducible exact h) | tb_rel | tb_start)
      · rw [decide_eq_false h0]
        placed_of0
        refine lmeets_ll h1 h2 ?_
        repeat (first | (with_reducible exact h) | tb_rel | tb_start)
    | c h2 =>
      placed_of0
      rw [eqv_lc]
      placed_of0
      refine lmeets_lc h1 h2 ?_
      repeat (first | (with_reducible exact h) | tb_rel | tb_start)
  | c h1 =>
    cases h2 with
    | l h2 =>
      placed_of0
      rw [eqv_cl]
      placed_of0
      refine lmeets_cl h2 h1 ?_
      repeat (first | (with_reducible exact h) | tb_rel | tb_start)
    | c h2 =>
      placed_of0
      rw [eqv_ci]
      rename_i a b c d e f
      by_cases h0 : a = d ∧ b = e ∧ c = f
      · rw [decide_eq_true h0]
        repeat (first | (with_reducible exact h) | tb_rel | tb_start)
      · rw [decide_eq_false h0]
        placed_of0
        refine lmeets_cc h0 h1 h2 ?_
        repeat (first | (with_reducible exact h) | tb_rel | tb_start)
theorem hs_law : ∀ ns : List Int, ns.length ≤ 63 → R_law (env0 10 [scr ns, .dict []]) { nx := fun _ => False, rt := fun d => d = .bool true, bk := fun _ => False, ct := fun _ => False } := by
  intro ns hn
  rw [show env0 10 [scr ns, .dict []] = [.va (scr ns), .va wD, .no, .no, .no, .no, .no, .no, .no, .no] from rfl]
  unfold R_law
  keq_rows
  refine forW_inv (I := fun ρ => ∃ s2 s3 s4 s5 s6 s7 s8 s9, ρ = [.va (scr ns), .va wD, s2, s3, s4, s5, s6, s7, s8, s9]) (fun _ => True) ?_ ?_ _ _ ⟨_, _, _, _, _, _, _, _, rfl⟩ fun _ _ => trivial
  · rintro d ρ nx' ct' _ ⟨s2, s3, s4, s5, s6, s7, s8, s9, rfl⟩ hnx hct
    placed_of0
    refine drawn_ok fun d1 d2 c1 c2 => ?_
    cases c1 with
    | @c a b c h1 =>
      obtain ⟨b1, b2, b3⟩ := h1.bs
      have e1 : bz 7 (-a / 2) := bz_over (bz_neg b1) bz_2 (by decide)
      have e2 : bz 7 (-b / 2) := bz_over (bz_neg b2) bz_2 (by decide)
      have hr : bz 40 (rad a b c) := bz_mono (by unfold rad; dl_puts) (by decide)
      placed_of0
      refine is_curve_ci (k := 10) (bz_mono b1 (by decide)) (bz_mono b2 (by decide)) b3 (by decide) ?_
      rw [show decide (0 < -a / 2 * (-a / 2) + -b / 2 * (-b / 2) - c) = true from decide_eq_true h1.2.2.2]
      placed_of0
      refine through_law ?_
      placed_of0
      refine lmiddle_ok (k := 5) b1 b2 (by decide) ?_
      placed_of0
      refine middle_ok (k := 5) b1 b2 (by decide) ?_
      placed_of0
      rw [eqv_pt, decide_eq_true ⟨rfl, rfl⟩, Bool.not_true]
      placed_of0
      refine radius_ok (k := 10) (bz_mono b1 (by decide)) (bz_mono b2 (by decide)) b3 (by decide) ?_
      placed_of0
      refine lradius_ok (k := 10) (bz_mono b1 (by decide)) (bz_mono b2 (by decide)) b3 (by decide) ?_
      placed_of0
      rw [show -a / 2 * (-a / 2) + -b / 2 * (-b / 2) - c = rad a b c from rfl, eqv_dr, decide_eq_true rfl, Bool.not_true]
      placed_of0
      refine lradius_ok (k := 10) (bz_mono b1 (by decide)) (bz_mono b2 (by decide)) b3 (by decide) ?_
      placed_of0
      refine circle_ok (k := 40) h1.2.2.2 (bz_mono e1 (by decide)) (bz_mono e2 (by decide)) hr (by decide) ?_
      rw [show -2 * (-a / 2) = a by grind, show -2 * (-b / 2) = b by grind, show -a / 2 * (-a / 2) + -b / 2 * (-b / 2) - rad a b c = c by unfold rad; grind]
      placed_of0
      rw [eqv_ci, decide_eq_true ⟨rfl, rfl, rfl⟩, Bool.not_true]
      placed_of0
      refine touch_same ?_
      refine ne_str (by decide +kernel) ?_
      repeat (first | (with_reducible refine meet_go (.c h1) c2 ?_) | tb_rel | tb_start)
      refine turns_ci h1 fun t1 t2 ht1 ht2 => ?_
      obtain ⟨p, q, C, rfl, hp, ho⟩ := ht1
      obtain ⟨p', q', C', rfl, hp', ho'⟩ := ht2
      placed_of0
      · exact cmul (k := 2) (l := 1) (sm_of (by decide) (by decide)) (sm_of (by decide) (by decide)) (by decide)
      placed_of0
      refine lside_on hp (.c h1 ho) ?_
      placed_of0
      refine lmiddle_ok (k := 5) b1 b2 (by decide) ?_
      placed_of0
      rw [lit01]
      refine cmp_mid hp.1 e2 ?_
      placed_of0
      refine lside_on hp' (.c h1 ho') ?_
      placed_of0
      refine lmiddle_ok (k := 5) b1 b2 (by decide) ?_
      placed_of0
      rw [lit01]
      refine cmp_mid hp'.1 e2 ?_
      repeat (first | (with_reducible refine tail_ok (k := 1) (sides_ci h1) (fun s5 s6 => ?_)) | tb_rel | tb_start)
      exact hnx _ ⟨_, _, _, _, _, _, _, _, rfl⟩
    | @l a b c h1 =>
      placed_of0
      refine is_curve_ln h1.1 ?_
      placed_of0
      refine through_law ?_
      placed_of0
      refine next_ok (by decide) fun i i0 i1 => ?_
      placed_of0
      rw [eqv_int]
      by_cases hi : i - 4 = 0
      · rw [decide_eq_true hi]
        repeat (first | (with_reducible refine meet_go (.l h1) c2 ?_) | tb_rel | tb_start)
        refine turns_ln ?_
        placed_of0
        · exact cmul (k := 2) (l := 1) (sm_of (by decide) (by decide)) (sm_of (by decide) (by decide)) (by decide)
        repeat (first | (with_reducible refine tail_ok (k := 0) (sides_ln h1) (fun s5 s6 => ?_)) | tb_rel | tb_start)
        exact hnx _ ⟨_, _, _, _, _, _, _, _, rfl⟩
      · rw [decide_eq_false hi]
        have bt : bz 4 ((i - 4 : Int) : Rat) := bz_int (sm_of (by simp; omega) (by simp; omega)) (by decide)
        have t0 : ((i - 4 : Int) : Rat) ≠ 0 := by rw [Ne, Rat.intCast_eq_zero_iff]; exact hi
        have et : ((i - 4 : Int) : Rat).num = i - 4 := Rat.num_intCast ..
        placed_of0
        rw [dr_int]
        refine sp__law_mul h1.2.1 bt (by decide) ?_
        placed_of0
        refine sp__law_mul h1.2.2.1 bt (by decide) ?_
        placed_of0
        refine sp__law_mul h1.2.2.2 bt (by decide) ?_
        placed_of0
        refine line_mul h1 t0 bt ?_
        placed_of0
        rw [eqv_lnb (by rw [et]), Bool.not_true]
        repeat (first | (with_reducible refine meet_go (.l h1) c2 ?_) | tb_rel | tb_start)
        refine turns_ln ?_
        placed_of0
        · exact cmul (k := 2) (l := 1) (sm_of (by decide) (by decide)) (sm_of (by decide) (by decide)) (by decide)
        repeat (first | (with_reducible refine tail_ok (k := 0) (sides_ln h1) (fun s5 s6 => ?_)) | tb_rel | tb_start)
        exact hnx _ ⟨_, _, _, _, _, _, _, _, rfl⟩
  · rintro ρ ⟨s2, s3, s4, s5, s6, s7, s8, s9, rfl⟩
    placed_of0
    rw [lit11]
    refine try_line (k := 1) bz_1 bz_1 bz_1 bz_1 (by decide) (fun z => ?_) fun z => (z ⟨by grind, by grind⟩).elim
    placed_of0
    · exact okD_lne
    · exact okD_lne
    placed_of0
    rw [eqv_str]
end

def topS (i : Nat) : Stmt := PySem.Challenge.pw_cornersexact_k01_wide_curves_and_where_t.main.body.getD i (.Pass ⟨0, 0, 0, 0⟩)
theorem boot_t_bool : bootBuiltins "bool" = some (.type "bool") := by decide +kernel
theorem boot_t_int : bootBuiltins "int" = some (.type "int") := by decide +kernel
theorem boot_t_list : bootBuiltins "list" = some (.type "list") := by decide +kernel
theorem boot_t_str : bootBuiltins "str" = some (.type "str") := by decide +kernel
theorem boot_t_tuple : bootBuiltins "tuple" = some (.type "tuple") := by decide +kernel
abbrev s__law_draws : Stmt := topS 56
abbrev s__law_frac : Stmt := topS 62
abbrev s__law_over : Stmt := topS 66
abbrev s__law_line : Stmt := topS 75
abbrev s__law_next : Stmt := topS 57
abbrev s__law_less : Stmt := topS 64
abbrev s__law_add : Stmt := topS 63
abbrev s__law_mul : Stmt := topS 65
abbrev s__law_circle : Stmt := topS 76
abbrev s__law_small : Stmt := topS 74
abbrev s__law_curve : Stmt := topS 77
abbrev s__law_middle : Stmt := topS 83
abbrev s__law_pick : Stmt := topS 58
abbrev s__law_drawn : Stmt := topS 87
abbrev s_common : Stmt := topS 8
abbrev s_fraction : Stmt := topS 9
abbrev s_half : Stmt := topS 17
abbrev s_turned : Stmt := topS 15
abbrev s_middle_of : Stmt := topS 34
abbrev s_minus : Stmt := topS 12
abbrev s_added : Stmt := topS 11
abbrev s_square : Stmt := topS 16
abbrev s_radius_of : Stmt := topS 35
abbrev s_plain : Stmt := topS 21
abbrev s_whole_root : Stmt := topS 23
abbrev s_times : Stmt := topS 13
abbrev s_tidy : Stmt := topS 24
abbrev s_turns_of : Stmt := topS 51
abbrev s_over : Stmt := topS 14
abbrev s_sign_of : Stmt := topS 5
abbrev s_sign : Stmt := topS 18
abbrev s_circle : Stmt := topS 33
abbrev s_circle_through : Stmt := topS 41
abbrev s_line : Stmt := topS 32
abbrev s_line_through : Stmt := topS 40
abbrev s__law_try : Stmt := topS 88
abbrev s_is_number : Stmt := topS 4
abbrev s_is_fraction : Stmt := topS 10
abbrev s_is_curve : Stmt := topS 36
abbrev s__law_point : Stmt := topS 72
abbrev s__law_says : Stmt := topS 59
abbrev s__law_sgn : Stmt := topS 67
abbrev s__law_sign : Stmt := topS 68
abbrev s__law_value : Stmt := topS 70
abbrev s__law_side : Stmt := topS 71
abbrev s__law_through : Stmt := topS 89
abbrev s_sign_of_root : Stmt := topS 25
abbrev s_sum_of : Stmt := topS 19
abbrev s_sign_of_two : Stmt := topS 26
abbrev s_compare : Stmt := topS 27
abbrev s_compare_points : Stmt := topS 49
abbrev s_in_order : Stmt := topS 50
abbrev s_of_lines : Stmt := topS 45
abbrev s_is_upright : Stmt := topS 37
abbrev s_both_roots : Stmt := topS 44
abbrev s_added_root : Stmt := topS 28
abbrev s_by_fraction : Stmt := topS 30
abbrev s_of_line_and_circle : Stmt := topS 46
abbrev s_same_power : Stmt := topS 47
abbrev s_meets : Stmt := topS 48
abbrev s__law_apart : Stmt := topS 84
abbrev s__law_radius : Stmt := topS 85
abbrev s__law_many : Stmt := topS 82
abbrev s_touch_kind : Stmt := topS 42
abbrev s__law_kind : Stmt := topS 86
abbrev s_times_root : Stmt := topS 29
abbrev s_value_at : Stmt := topS 38
abbrev s_sign_at : Stmt := topS 39
abbrev s__law_compare : Stmt := topS 69
abbrev s__law_before : Stmt := topS 73
abbrev s_is_root : Stmt := topS 22
abbrev s_is_point : Stmt := topS 54
abbrev s__law_meets : Stmt := topS 90
abbrev s_point_of : Stmt := topS 52
abbrev s__law_bent : Stmt := topS 91
abbrev s_law : Stmt := topS 92
section
variable {P : Program} {w : PySem.World} {K : PySem.W.Frag} {mg : Str → Option Value} {base : Heap} {C CP : Addr}
theorem ok__law_draws {f : Addr} {fd : FuncData} (F : Fun K "_law_draws" "_law_draws" s__law_draws f fd) (gm : mg "_law_draws" = some (.ref f)) (b_range : mg "range" = none) (b_len : mg "len" = none) (b_abs : mg "abs" = none) (b_int : mg "int" = none) : Df P w K mg base "_law_draws" 2 1 F__law_draws := by
  have nd : (["script", "many", "draws", "mixed", "k", "cell", "rest", "turn"] : List Str).Nodup := by decide +kernel
  refine df_of (N := ["script", "many", "draws", "mixed", "k", "cell", "rest", "turn"]) (ps := ["script", "many"]) F ⟨rfl, rfl, rfl, nd, rfl, by decide +kernel, by decide +kernel⟩ rfl rfl gm (F.binds (ps := ["script", "many"]) fun _ _ _ _ _ _ us hl => match us, hl with | [_, _], _ => rfl) fun cdv A outer s0 H E aw hr => ?_
  exact (ss_cons (ss_own (i := 2) (fun _ he => ps_set (i := 2) nd rfl (Or.inl rfl) he) sa_nil) (ss_cons (ss_set (i := 3) nd rfl (Or.inl rfl) se_int) (ss_cons (ss_for PassesOwn.never rfl (si_rng1 rfl b_range (sa_cons (se_len rfl b_len (sa_cons (se_var (pv 0)) sa_nil)) sa_nil)) (sg_name (pg_name (i := 4) nd rfl (Or.inl rfl))) (ss_cons (ss_set (i := 5) nd rfl (Or.inl rfl) (se_abs rfl b_abs (sa_cons (se_intc rfl b_int (sa_cons (se_ix (se_var (pv 0)) (se_var (pv 4))) sa_nil)) sa_nil))) (ss_cons (ss_set (i := 3) nd rfl (Or.inl rfl) (se_mod (se_intc rfl b_int (sa_cons (se_add (se_add (se_mul (se_var (pv 3)) se_int) (se_mod (se_var (pv 5)) se_int)) (se_var (pv 4))) sa_nil)) se_int)) (ss_cons (ss_set (i := 6) nd rfl (Or.inl rfl) se_int) (ss_cons (ss_if (st_ge (se_var (pv 5)) (se_pow se_int se_int)) (ss_one (ss_set (i := 6) nd rfl (Or.inl rfl) (se_var (pv 5)))) (ss_cons (ss_app (ps_expr (pe_bm PySem.F.plainAttrs_list PySem.F.slot_list_append PySem.F.type_list_append mt_append (pv 2) (sa_cons (se_mod (se_intc rfl b_int (sa_cons (se_var (pv 5)) sa_nil)) se_int) sa_nil)))) (ss_one (ss_app (ps_expr (pe_bm PySem.F.plainAttrs_list PySem.F.slot_list_append PySem.F.type_list_append mt_append (pv 2) (sa_cons (se_mod (se_mod (se_intc rfl b_int (sa_cons (se_add (se_mul (se_var (pv 3)) se_int) se_int) sa_nil)) se_int) se_int) sa_nil))))))) (ss_one (ss_for PassesOwn.never rfl (si_rng1 rfl b_range (sa_cons se_int sa_nil)) (sg_name (pg_name (i := 7) nd rfl (Or.inl rfl))) (ss_one (ss_if (st_gt (se_var (pv 6)) se_int) (ss_cons (ss_app (ps_expr (pe_bm PySem.F.plainAttrs_list PySem.F.slot_list_append PySem.F.type_list_append mt_append (pv 2) (sa_cons (se_mod (se_intc rfl b_int (sa_cons (se_var (pv 6)) sa_nil)) se_int) sa_nil)))) (ss_one (ss_set (i := 6) nd rfl (Or.inl rfl) (se_div (se_var (pv 6)) se_int)))) ss_nil))))))))) (ss_cons (ss_for PassesOwn.never rfl (si_rng1 rfl b_range (sa_cons (se_var (pv 1)) sa_nil)) (sg_name (pg_name (i := 4) nd rfl (Or.inl rfl))) (ss_cons (ss_set (i := 3) nd rfl (Or.inl rfl) (se_mod (se_intc rfl b_int (sa_cons (se_add (se_add (se_mul (se_var (pv 3)) se_int) (se_var (pv 4))) se_int) sa_nil)) se_int)) (ss_one (ss_app (ps_expr (pe_bm PySem.F.plainAttrs_list PySem.F.slot_list_append PySem.F.type_list_append mt_append (pv 2) (sa_cons (se_mod (se_intc rfl b_int (sa_cons (se_var (pv 3)) sa_nil)) se_int) sa_nil))))))) (ss_freeze (i := 2) (ss_one (ss_ret (se_sl (se_var (pv 2)) so_none (so_some (se_var (pv 1)))))))))))
theorem ok__law_frac {f : Addr} {fd : FuncData} (F : Fun K "_law_frac" "_law_frac" s__law_frac f fd) (gm : mg "_law_frac" = some (.ref f)) (b_abs : mg "abs" = none) (b_range : mg "range" = none) : Df P w K mg base "_law_frac" 2 1 F__law_frac := by
  have nd : (["upper", "lower", "a", "b", "time"] : List Str).Nodup := by decide +kernel
  refine df_of (N := ["upper", "lower", "a", "b", "time"]) (ps := ["upper", "lower"]) F ⟨rfl, rfl, rfl, nd, rfl, by decide +kernel, by decide +kernel⟩ rfl rfl gm (F.binds (ps := ["upper", "lower"]) fun _ _ _ _ _ _ us hl => match us, hl with | [_, _], _ => rfl) fun cdv A outer s0 H E aw hr => ?_
  exact (ss_cons (ss_par (ps_par (i := 2) (j := 3) rfl nd rfl rfl (by decide) rfl rfl (sa_cons (se_abs rfl b_abs (sa_cons (se_var (pv 0)) sa_nil)) (sa_cons (se_abs rfl b_abs (sa_cons (se_var (pv 1)) sa_nil)) sa_nil)) (by rfl))) (ss_cons (ss_for PassesOwn.never rfl (si_rng1 rfl b_range (sa_cons se_int sa_nil)) (sg_name (pg_name (i := 4) nd rfl (Or.inl rfl))) (ss_cons (ss_if (st_eq hr (se_var (pv 3)) se_int) (ss_one ss_brk) ss_nil) (ss_one (ss_par (ps_par (i := 2) (j := 3) rfl nd rfl rfl (by decide) rfl rfl (sa_cons (se_var (pv 3)) (sa_cons (se_sub (se_var (pv 2)) (se_mul (se_div (se_var (pv 2)) (se_var (pv 3))) (se_var (pv 3)))) sa_nil)) (by rfl)))))) (ss_cons (ss_set (i := 2) nd rfl (Or.inl rfl) (se_if (st_gt (se_var (pv 1)) se_int) (se_var (pv 2)) (se_sub se_int (se_var (pv 2))))) (ss_one (ss_ret (se_tup (sa_cons (se_div (se_var (pv 0)) (se_var (pv 2))) (sa_cons (se_div (se_var (pv 1)) (se_var (pv 2))) sa_nil))))))))
theorem ok__law_over {f : Addr} {fd : FuncData} (F : Fun K "_law_over" "_law_over" s__law_over f fd) (gm : mg "_law_over" = some (.ref f)) (h__law_frac : Df P w K mg base "_law_frac" 2 1 F__law_frac) : Df P w K mg base "_law_over" 2 2 F__law_over := by
  have nd : (["one", "other"] : List Str).Nodup := by decide +kernel
  refine df_of (N := ["one", "other"]) (ps := ["one", "other"]) F ⟨rfl, rfl, rfl, nd, rfl, by decide +kernel, by decide +kernel⟩ rfl rfl gm (F.binds (ps := ["one", "other"]) fun _ _ _ _ _ _ us hl => match us, hl with | [_, _], _ => rfl) fun cdv A outer s0 H E aw hr => ?_
  exact (ss_one (ss_ret (se_call h__law_frac hr (by decide) rfl (sa_cons (se_mul (se_ix (se_var (pv 0)) se_int) (se_ix (se_var (pv 1)) se_int)) (sa_cons (se_mul (se_ix (se_var (pv 0)) se_int) (se_ix (se_var (pv 1)) se_int)) sa_nil)))))
theorem ok__law_line {f : Addr} {fd : FuncData} (F : Fun K "_law_line" "_law_line" s__law_line f fd) (gm : mg "_law_line" = some (.ref f)) (h__law_over : Df P w K mg base "_law_over" 2 2 F__law_over) : Df P w K mg base "_law_line" 3 3 F__law_line := by
  have nd : (["a", "b", "c", "first"] : List Str).Nodup := by decide +kernel
  refine df_of (N := ["a", "b", "c", "first"]) (ps := ["a", "b", "c"]) F ⟨rfl, rfl, rfl, nd, rfl, by decide +kernel, by decide +kernel⟩ rfl rfl gm (F.binds (ps := ["a", "b", "c"]) fun _ _ _ _ _ _ us hl => match us, hl with | [_, _, _], _ => rfl) fun cdv A outer s0 H E aw hr => ?_
  exact (ss_cons (ss_set (i := 3) nd rfl (Or.inl rfl) (se_if (st_ne hr (se_ix (se_var (pv 0)) se_int) se_int) (se_var (pv 0)) (se_var (pv 1)))) (ss_one (ss_ret (se_tup (sa_cons se_int (sa_cons (se_call h__law_over hr (by decide) rfl (sa_cons (se_var (pv 0)) (sa_cons (se_var (pv 3)) sa_nil))) (sa_cons (se_call h__law_over hr (by decide) rfl (sa_cons (se_var (pv 1)) (sa_cons (se_var (pv 3)) sa_nil))) (sa_cons (se_call h__law_over hr (by decide) rfl (sa_cons (se_var (pv 2)) (sa_cons (se_var (pv 3)) sa_nil))) sa_nil))))))))
theorem ok__law_next {f : Addr} {fd : FuncData} (F : Fun K "_law_next" "_law_next" s__law_next f fd) (gm : mg "_law_next" = some (.ref f)) (b_len : mg "len" = none) (b_int : mg "int" = none) : Df P w K mg base "_law_next" 2 1 F__law_next := by
  have nd : (["w", "many"] : List Str).Nodup := by decide +kernel
  refine ⟨f, fd, ["w", "many"], rfl, gm, F.kp, F.binds (ps := ["w", "many"]) fun _ _ _ _ _ _ us hl => match us, hl with | [_, _], _ => rfl, F.ok (N := ["w", "many"]) ⟨rfl, rfl, rfl, nd, rfl, by decide +kernel, by decide +kernel⟩ (fun vs H Q E h => ?_) (fun cdv A outer s0 H vs Q E hr h => ?_)⟩
  · obtain ⟨_, _, _, _, h, _⟩ := h
    exact h
  · obtain ⟨aw, B, ds, P', hl, wl, hB, r, hF, q⟩ := h
    have hu : (A.deeper (envOfC (Str.ofString "_law_next") (defScope s__law_next) s0.heap.objs.size f cdv)).units + 1 < cLine := by have := hr.un; omega
    refine ⟨_, pss_cons (ps_daug hu (pv 0) pe_str pe_int in_add (by intro _ _ _; rfl))
      (pss_cons (ps_if (pt_cmpR op_gt (pe_dget hu (pv 0) pe_str (fun _ _ => rfl)) (pe_callB call_len_seq (by rfl) b_len PySem.boot_len (pa_cons (pe_dget hu (pv 0) pe_str (fun _ _ => rfl)) pa_nil)) (nomark _)) (pss_one (ps_ret pe_int)) pss_nil)
      (pss_one (ps_ret (pe_op op_modN (pe_callTy call_int1 (by rfl) b_int (by decide +kernel) (pa_cons (pe_ix ix_list (pe_dget hu (pv 0) pe_str (fun _ _ => rfl)) (pe_op op_sub (pe_dget hu (pv 0) pe_str (fun _ _ => rfl)) pe_int) (fun _ _ => rfl)) pa_nil)) (pv 1))))), ?_⟩
    unfold F__law_next F_next at hF
    split at hF
    · rename_i m
      obtain ⟨hm, hF⟩ := hF
      cases r with
      | cons r0 rr =>
      cases rr with
      | cons r1 rr =>
      cases rr
      cases r1
      cases r0 with
      | wld ea hd =>
      rename_i a kvs
      subst ea
      obtain ⟨ld, n, ns, h1, h2, h0, hlen⟩ := wl a rfl
      obtain ⟨a1, a2⟩ := cut_some h1
      obtain ⟨b1, b2⟩ := cut_some h2
      have ne : ld ≠ a := fun z => by rw [z, a1] at b1; cases b1
      obtain ⟨ex, wx⟩ := world_step h1 h2 h0 hlen
      refine ⟨_, rfl, a, .int n, rfl, .inl ⟨_, .inr "at", .inl a1, rfl, (w_at ld n).symm⟩, n, 1, rfl, rfl, _, .inl ⟨_, .inr "at", a1, rfl, (by show 2 < sizeLine; decide), rfl⟩, ?_⟩
      rw [w_put]
      have g1 : (upd H a (.dK [(.inr "draws", .ref ld), (.inr "at", .int (n + 1))])) a = some (.dK [(.inr "draws", .ref ld), (.inr "at", .int (n + 1))]) := upd_same
      have g2 : (upd H a (.dK [(.inr "draws", .ref ld), (.inr "at", .int (n + 1))])) ld = some (.lst (ns.map V.int)) := by rw [upd_ne ne]; exact b1
      refine ⟨_, rfl, a, _, rfl, .inl ⟨_, .inr "at", .inl g1, rfl, (w_at ld (n + 1)).symm⟩, _, rfl, a, _, rfl, .inl ⟨_, .inr "draws", .inl g1, rfl, (w_draws ld (n + 1)).symm⟩, ld, _, rfl, .inl (.inl (.inl g2)), n + 1, ((ns.map V.int).length : Nat), rfl, rfl, _, rfl, ?_⟩
      by_cases hc : ((ns.map V.int).length : Int) < n + 1
      · rw [decide_eq_true hc]
        exact q _ _ _ ex wx (.int 0) (hF 0 (by omega) hm)
      · rw [decide_eq_false hc]
        have hi : n.toNat < ns.length := by
          rw [List.length_map] at hc
          omega
        refine ⟨_, rfl, a, _, rfl, .inl ⟨_, .inr "draws", .inl g1, rfl, (w_draws ld (n + 1)).symm⟩, _, rfl, a, _, rfl, .inl ⟨_, .inr "at", .inl g1, rfl, (w_at ld (n + 1)).symm⟩, n + 1, 1, rfl, rfl, ld, _, n + 1 - 1, .int ns[n.toNat], rfl, rfl, .inl (.inl g2), ?_, .inl ⟨_, rfl, _, rfl, _, m, rfl, rfl, ?_, ?_⟩⟩
        · have e : n + 1 - 1 = ((n.toNat : Nat) : Int) := by omega
          rw [e]
          refine atI_nat ?_
          rw [List.getElem?_map, List.getElem?_eq_getElem hi]
          rfl
        · omega
        · refine q _ _ _ ex wx (.int _) (hF _ ?_ ?_)
          · rw [Int.fmod_eq_emod_of_nonneg _ (by omega)]; exact Int.emod_nonneg _ (by omega)
          · exact Int.fmod_lt_of_pos _ hm
    · cases hF
theorem ok__law_less {f : Addr} {fd : FuncData} (F : Fun K "_law_less" "_law_less" s__law_less f fd) (gm : mg "_law_less" = some (.ref f)) (h__law_frac : Df P w K mg base "_law_frac" 2 1 F__law_frac) : Df P w K mg base "_law_less" 2 2 F__law_less := by
  have nd : (["one", "other"] : List Str).Nodup := by decide +kernel
  refine df_of (N := ["one", "other"]) (ps := ["one", "other"]) F ⟨rfl, rfl, rfl, nd, rfl, by decide +kernel, by decide +kernel⟩ rfl rfl gm (F.binds (ps := ["one", "other"]) fun _ _ _ _ _ _ us hl => match us, hl with | [_, _], _ => rfl) fun cdv A outer s0 H E aw hr => ?_
  exact (ss_one (ss_ret (se_call h__law_frac hr (by decide) rfl (sa_cons (se_sub (se_mul (se_ix (se_var (pv 0)) se_int) (se_ix (se_var (pv 1)) se_int)) (se_mul (se_ix (se_var (pv 1)) se_int) (se_ix (se_var (pv 0)) se_int))) (sa_cons (se_mul (se_ix (se_var (pv 0)) se_int) (se_ix (se_var (pv 1)) se_int)) sa_nil)))))
theorem ok__law_add {f : Addr} {fd : FuncData} (F : Fun K "_law_add" "_law_add" s__law_add f fd) (gm : mg "_law_add" = some (.ref f)) (h__law_frac : Df P w K mg base "_law_frac" 2 1 F__law_frac) : Df P w K mg base "_law_add" 2 2 F__law_add := by
  have nd : (["one", "other"] : List Str).Nodup := by decide +kernel
  refine df_of (N := ["one", "other"]) (ps := ["one", "other"]) F ⟨rfl, rfl, rfl, nd, rfl, by decide +kernel, by decide +kernel⟩ rfl rfl gm (F.binds (ps := ["one", "other"]) fun _ _ _ _ _ _ us hl => match us, hl with | [_, _], _ => rfl) fun cdv A outer s0 H E aw hr => ?_
  exact (ss_one (ss_ret (se_call h__law_frac hr (by decide) rfl (sa_cons (se_add (se_mul (se_ix (se_var (pv 0)) se_int) (se_ix (se_var (pv 1)) se_int)) (se_mul (se_ix (se_var (pv 1)) se_int) (se_ix (se_var (pv 0)) se_int))) (sa_cons (se_mul (se_ix (se_var (pv 0)) se_int) (se_ix (se_var (pv 1)) se_int)) sa_nil)))))
theorem ok__law_mul {f : Addr} {fd : FuncData} (F : Fun K "_law_mul" "_law_mul" s__law_mul f fd) (gm : mg "_law_mul" = some (.ref f)) (h__law_frac : Df P w K mg base "_law_frac" 2 1 F__law_frac) : Df P w K mg base "_law_mul" 2 2 F__law_mul := by
  have nd : (["one", "other"] : List Str).Nodup := by decide +kernel
  refine df_of (N := ["one", "other"]) (ps := ["one", "other"]) F ⟨rfl, rfl, rfl, nd, rfl, by decide +kernel, by decide +kernel⟩ rfl rfl gm (F.binds (ps := ["one", "other"]) fun _ _ _ _ _ _ us hl => match us, hl with | [_, _], _ => rfl) fun cdv A outer s0 H E aw hr => ?_
  exact (ss_one (ss_ret (se_call h__law_frac hr (by decide) rfl (sa_cons (se_mul (se_ix (se_var (pv 0)) se_int) (se_ix (se_var (pv 1)) se_int)) (sa_cons (se_mul (se_ix (se_var (pv 0)) se_int) (se_ix (se_var (pv 1)) se_int)) sa_nil)))))
theorem ok__law_circle {f : Addr} {fd : FuncData} (F : Fun K "_law_circle" "_law_circle" s__law_circle f fd) (gm : mg "_law_circle" = some (.ref f)) (h__law_mul : Df P w K mg base "_law_mul" 2 2 F__law_mul) (h__law_add : Df P w K mg base "_law_add" 2 2 F__law_add) (h__law_less : Df P w K mg base "_law_less" 2 2 F__law_less) : Df P w K mg base "_law_circle" 3 3 F__law_circle := by
  have nd : (["x", "y", "r", "rest"] : List Str).Nodup := by decide +kernel
  refine df_of (N := ["x", "y", "r", "rest"]) (ps := ["x", "y", "r"]) F ⟨rfl, rfl, rfl, nd, rfl, by decide +kernel, by decide +kernel⟩ rfl rfl gm (F.binds (ps := ["x", "y", "r"]) fun _ _ _ _ _ _ us hl => match us, hl with | [_, _, _], _ => rfl) fun cdv A outer s0 H E aw hr => ?_
  exact (ss_cons (ss_set (i := 3) nd rfl (Or.inl rfl) (se_call h__law_less hr (by decide) rfl (sa_cons (se_call h__law_add hr (by decide) rfl (sa_cons (se_call h__law_mul hr (by decide) rfl (sa_cons (se_var (pv 0)) (sa_cons (se_var (pv 0)) sa_nil))) (sa_cons (se_call h__law_mul hr (by decide) rfl (sa_cons (se_var (pv 1)) (sa_cons (se_var (pv 1)) sa_nil))) sa_nil))) (sa_cons (se_var (pv 2)) sa_nil)))) (ss_one (ss_ret (se_tup (sa_cons se_int (sa_cons (se_call h__law_mul hr (by decide) rfl (sa_cons (se_tup (sa_cons (se_neg se_int) (sa_cons se_int sa_nil))) (sa_cons (se_var (pv 0)) sa_nil))) (sa_cons (se_call h__law_mul hr (by decide) rfl (sa_cons (se_tup (sa_cons (se_neg se_int) (sa_cons se_int sa_nil))) (sa_cons (se_var (pv 1)) sa_nil))) (sa_cons (se_var (pv 3)) sa_nil))))))))
theorem ok__law_small {f : Addr} {fd : FuncData} (F : Fun K "_law_small" "_law_small" s__law_small f fd) (gm : mg "_law_small" = some (.ref f)) (h__law_next : Df P w K mg base "_law_next" 2 1 F__law_next) (h__law_frac : Df P w K mg base "_law_frac" 2 1 F__law_frac) : Df P w K mg base "_law_small" 1 2 F__law_small := by
  have nd : (["w"] : List Str).Nodup := by decide +kernel
  refine df_of (N := ["w"]) (ps := ["w"]) F ⟨rfl, rfl, rfl, nd, rfl, by decide +kernel, by decide +kernel⟩ rfl rfl gm (F.binds (ps := ["w"]) fun _ _ _ _ _ _ us hl => match us, hl with | [_], _ => rfl) fun cdv A outer s0 H E aw hr => ?_
  exact (ss_one (ss_ret (se_call h__law_frac hr (by decide) rfl (sa_cons (se_sub (se_call h__law_next hr (by decide) rfl (sa_cons (se_var (pv 0)) (sa_cons se_int sa_nil))) se_int) (sa_cons (se_add se_int (se_call h__law_next hr (by decide) rfl (sa_cons (se_var (pv 0)) (sa_cons se_int sa_nil)))) sa_nil)))))
theorem ok__law_curve {f : Addr} {fd : FuncData} (F : Fun K "_law_curve" "_law_curve" s__law_curve f fd) (gm : mg "_law_curve" = some (.ref f)) (h__law_next : Df P w K mg base "_law_next" 2 1 F__law_next) (h__law_small : Df P w K mg base "_law_small" 1 2 F__law_small) (h__law_frac : Df P w K mg base "_law_frac" 2 1 F__law_frac) (h__law_circle : Df P w K mg base "_law_circle" 3 3 F__law_circle) (h__law_line : Df P w K mg base "_law_line" 3 3 F__law_line) : Df P w K mg base "_law_curve" 1 4 F__law_curve := by
  have nd : (["w", "a", "b"] : List Str).Nodup := by decide +kernel
  refine df_of (N := ["w", "a", "b"]) (ps := ["w"]) F ⟨rfl, rfl, rfl, nd, rfl, by decide +kernel, by decide +kernel⟩ rfl rfl gm (F.binds (ps := ["w"]) fun _ _ _ _ _ _ us hl => match us, hl with | [_], _ => rfl) fun cdv A outer s0 H E aw hr => ?_
  exact (ss_cons (ss_if (st_eq hr (se_call h__law_next hr (by decide) rfl (sa_cons (se_var (pv 0)) (sa_cons se_int sa_nil))) se_int) (ss_one (ss_ret (se_call h__law_circle hr (by decide) rfl (sa_cons (se_call h__law_small hr (by decide) rfl (sa_cons (se_var (pv 0)) sa_nil)) (sa_cons (se_call h__law_small hr (by decide) rfl (sa_cons (se_var (pv 0)) sa_nil)) (sa_cons (se_call h__law_frac hr (by decide) rfl (sa_cons (se_add se_int (se_call h__law_next hr (by decide) rfl (sa_cons (se_var (pv 0)) (sa_cons se_int sa_nil)))) (sa_cons (se_add se_int (se_call h__law_next hr (by decide) rfl (sa_cons (se_var (pv 0)) (sa_cons se_int sa_nil)))) sa_nil))) sa_nil)))))) ss_nil) (ss_cons (ss_par (ps_par (i := 1) (j := 2) rfl nd rfl rfl (by decide) rfl rfl (sa_cons (se_sub (se_call h__law_next hr (by decide) rfl (sa_cons (se_var (pv 0)) (sa_cons se_int sa_nil))) se_int) (sa_cons (se_sub (se_call h__law_next hr (by decide) rfl (sa_cons (se_var (pv 0)) (sa_cons se_int sa_nil))) se_int) sa_nil)) (by rfl))) (ss_one (ss_ret (se_call h__law_line hr (by decide) rfl (sa_cons (se_tup (sa_cons (se_var (pv 1)) (sa_cons se_int sa_nil))) (sa_cons (se_tup (sa_cons (se_if (st_w (sw_or (st_ne hr (se_var (pv 1)) se_int) (sw_or1 (st_ne hr (se_var (pv 2)) se_int)))) (se_var (pv 2)) se_int) (sa_cons se_int sa_nil))) (sa_cons (se_call h__law_small hr (by decide) rfl (sa_cons (se_var (pv 0)) sa_nil)) sa_nil))))))))
theorem ok__law_middle {f : Addr} {fd : FuncData} (F : Fun K "_law_middle" "_law_middle" s__law_middle f fd) (gm : mg "_law_middle" = some (.ref f)) (h__law_over : Df P w K mg base "_law_over" 2 2 F__law_over) : Df P w K mg base "_law_middle" 1 3 F__law_middle := by
  have nd : (["curve"] : List Str).Nodup := by decide +kernel
  refine df_of (N := ["curve"]) (ps := ["curve"]) F ⟨rfl, rfl, rfl, nd, rfl, by decide +kernel, by decide +kernel⟩ rfl rfl gm (F.binds (ps := ["curve"]) fun _ _ _ _ _ _ us hl => match us, hl with | [_], _ => rfl) fun cdv A outer s0 H E aw hr => ?_
  exact (ss_one (ss_ret (se_tup (sa_cons (se_call h__law_over hr (by decide) rfl (sa_cons (se_ix (se_var (pv 0)) se_int) (sa_cons (se_tup (sa_cons (se_neg se_int) (sa_cons se_int sa_nil))) sa_nil))) (sa_cons (se_call h__law_over hr (by decide) rfl (sa_cons (se_ix (se_var (pv 0)) se_int) (sa_cons (se_tup (sa_cons (se_neg se_int) (sa_cons se_int sa_nil))) sa_nil))) sa_nil)))))
theorem ok__law_pick {f : Addr} {fd : FuncData} (F : Fun K "_law_pick" "_law_pick" s__law_pick f fd) (gm : mg "_law_pick" = some (.ref f)) (b_len : mg "len" = none) (h__law_next : Df P w K mg base "_law_next" 2 1 F__law_next) : Df P w K mg base "_law_pick" 2 2 F__law_pick := by
  have nd : (["w", "rows"] : List Str).Nodup := by decide +kernel
  refine df_of (N := ["w", "rows"]) (ps := ["w", "rows"]) F ⟨rfl, rfl, rfl, nd, rfl, by decide +kernel, by decide +kernel⟩ rfl rfl gm (F.binds (ps := ["w", "rows"]) fun _ _ _ _ _ _ us hl => match us, hl with | [_, _], _ => rfl) fun cdv A outer s0 H E aw hr => ?_
  exact (ss_one (ss_ret (se_ix (se_var (pv 1)) (se_call h__law_next hr (by decide) rfl (sa_cons (se_var (pv 0)) (sa_cons (se_len rfl b_len (sa_cons (se_var (pv 1)) sa_nil)) sa_nil))))))
theorem ok__law_drawn {f : Addr} {fd : FuncData} (F : Fun K "_law_drawn" "_law_drawn" s__law_drawn f fd) (gm : mg "_law_drawn" = some (.ref f)) (h__law_curve : Df P w K mg base "_law_curve" 1 4 F__law_curve) (h__law_next : Df P w K mg base "_law_next" 2 1 F__law_next) (h__law_middle : Df P w K mg base "_law_middle" 1 3 F__law_middle) (h__law_mul : Df P w K mg base "_law_mul" 2 2 F__law_mul) (h__law_add : Df P w K mg base "_law_add" 2 2 F__law_add) (h__law_circle : Df P w K mg base "_law_circle" 3 3 F__law_circle) (h__law_line : Df P w K mg base "_law_line" 3 3 F__law_line) (h__law_pick : Df P w K mg base "_law_pick" 2 2 F__law_pick) : Df P w K mg base "_law_drawn" 1 5 F__law_drawn := by
  have nd : (["w", "one", "x", "y", "far", "square_v", "edge", "beside", "upright", "within"] : List Str).Nodup := by decide +kernel
  refine df_of (N := ["w", "one", "x", "y", "far", "square_v", "edge", "beside", "upright", "within"]) (ps := ["w"]) F ⟨rfl, rfl, rfl, nd, rfl, by decide +kernel, by decide +kernel⟩ rfl rfl gm (F.binds (ps := ["w"]) fun _ _ _ _ _ _ us hl => match us, hl with | [_], _ => rfl) fun cdv A outer s0 H E aw hr => ?_
  exact (ss_cons (ss_set (i := 1) nd rfl (Or.inl rfl) (se_call h__law_curve hr (by decide) rfl (sa_cons (se_var (pv 0)) sa_nil))) (ss_cons (ss_if (st_w (sw_and (st_eq hr (se_ix (se_var (pv 1)) se_int) se_int) (sw_and1 (st_eq hr (se_call h__law_next hr (by decide) rfl (sa_cons (se_var (pv 0)) (sa_cons se_int sa_nil))) se_int)))) (ss_cons (ss_asg (se_tup (sa_cons (se_call h__law_middle hr (by decide) rfl (sa_cons (se_var (pv 1)) sa_nil)) (sa_cons (se_tup (sa_cons (se_add se_int (se_call h__law_next hr (by decide) rfl (sa_cons (se_var (pv 0)) (sa_cons se_int sa_nil)))) (sa_cons se_int sa_nil))) sa_nil))) (sg_tup rfl (sgs_cons (sg_tup rfl (sgs_cons (sg_name (pg_name (i := 2) nd rfl (Or.inl rfl))) (sgs_cons (sg_name (pg_name (i := 3) nd rfl (Or.inl rfl))) sgs_nil))) (sgs_cons (sg_name (pg_name (i := 4) nd rfl (Or.inl rfl))) sgs_nil)))) (ss_cons (ss_par (ps_par (i := 5) (j := 6) rfl nd rfl rfl (by decide) rfl rfl (sa_cons (se_call h__law_mul hr (by decide) rfl (sa_cons (se_var (pv 4)) (sa_cons (se_var (pv 4)) sa_nil))) (sa_cons (se_call h__law_add hr (by decide) rfl (sa_cons (se_var (pv 2)) (sa_cons (se_var (pv 4)) sa_nil))) sa_nil)) (by rfl))) (ss_cons (ss_set (i := 7) nd rfl (Or.inl rfl) (se_call h__law_circle hr (by decide) rfl (sa_cons (se_call h__law_add hr (by decide) rfl (sa_cons (se_var (pv 2)) (sa_cons (se_call h__law_mul hr (by decide) rfl (sa_cons (se_var (pv 4)) (sa_cons (se_tup (sa_cons se_int (sa_cons se_int sa_nil))) sa_nil))) sa_nil))) (sa_cons (se_var (pv 3)) (sa_cons (se_var (pv 5)) sa_nil))))) (ss_cons (ss_par (ps_par (i := 8) (j := 9) rfl nd rfl rfl (by decide) rfl rfl (sa_cons (se_call h__law_line hr (by decide) rfl (sa_cons (se_tup (sa_cons se_int (sa_cons se_int sa_nil))) (sa_cons (se_tup (sa_cons se_int (sa_cons se_int sa_nil))) (sa_cons (se_tup (sa_cons (se_sub se_int (se_ix (se_var (pv 6)) se_int)) (sa_cons (se_ix (se_var (pv 6)) se_int) sa_nil))) sa_nil)))) (sa_cons (se_call h__law_circle hr (by decide) rfl (sa_cons (se_var (pv 6)) (sa_cons (se_var (pv 3)) (sa_cons (se_call h__law_mul hr (by decide) rfl (sa_cons (se_var (pv 5)) (sa_cons (se_tup (sa_cons se_int (sa_cons se_int sa_nil))) sa_nil))) sa_nil)))) sa_nil)) (by rfl))) (ss_one (ss_ret (se_tup (sa_cons (se_call h__law_circle hr (by decide) rfl (sa_cons (se_var (pv 2)) (sa_cons (se_var (pv 3)) (sa_cons (se_var (pv 5)) sa_nil)))) (sa_cons (se_call h__law_pick hr (by decide) rfl (sa_cons (se_var (pv 0)) (sa_cons (se_lst (sa_cons (se_var (pv 7)) (sa_cons (se_var (pv 8)) (sa_cons (se_var (pv 9)) sa_nil)))) sa_nil))) sa_nil))))))))) ss_nil) (ss_one (ss_ret (se_tup (sa_cons (se_var (pv 1)) (sa_cons (se_call h__law_curve hr (by decide) rfl (sa_cons (se_var (pv 0)) sa_nil)) sa_nil)))))))
theorem ok_common {f : Addr} {fd : FuncData} (F : Fun K "common" "common" s_common f fd) (gm : mg "common" = some (.ref f)) (b_abs : mg "abs" = none) : Df P w K mg base "common" 2 1 F_common := by
  have nd : (["a", "b"] : List Str).Nodup := by decide +kernel
  refine df_of (N := ["a", "b"]) (ps := ["a", "b"]) F ⟨rfl, rfl, rfl, nd, rfl, by decide +kernel, by decide +kernel⟩ rfl rfl gm (F.binds (ps := ["a", "b"]) fun _ _ _ _ _ _ us hl => match us, hl with | [_, _], _ => rfl) fun cdv A outer s0 H E aw hr => ?_
  exact (ss_cons (ss_while PassesOwn.never (st_ne hr (se_var (pv 1)) se_int) (ss_one (ss_par (ps_par (i := 0) (j := 1) rfl nd rfl rfl (by decide) rfl rfl (sa_cons (se_var (pv 1)) (sa_cons (se_mod (se_var (pv 0)) (se_var (pv 1))) sa_nil)) (by rfl))))) (ss_one (ss_ret (se_abs rfl b_abs (sa_cons (se_var (pv 0)) sa_nil)))))
theorem ok_fraction {f : Addr} {fd : FuncData} (F : Fun K "fraction" "fraction" s_fraction f fd) (gm : mg "fraction" = some (.ref f)) (h_common : Df P w K mg base "common" 2 1 F_common) : Df P w K mg base "fraction" 2 2 F_fraction := by
  have nd : (["upper", "lower", "part"] : List Str).Nodup := by decide +kernel
  refine df_of (N := ["upper", "lower", "part"]) (ps := ["upper", "lower"]) F ⟨rfl, rfl, rfl, nd, rfl, by decide +kernel, by decide +kernel⟩ rfl rfl gm (F.binds (ps := ["upper", "lower"]) fun _ _ _ _ _ _ us hl => match us, hl with | [_, _], _ => rfl) fun cdv A outer s0 H E aw hr => ?_
  exact (ss_cons (ss_set (i := 2) nd rfl (Or.inl rfl) (se_call h_common hr (by decide) rfl (sa_cons (se_var (pv 0)) (sa_cons (se_var (pv 1)) sa_nil)))) (ss_cons (ss_if (st_lt (se_var (pv 1)) se_int) (ss_one (ss_set (i := 2) nd rfl (Or.inl rfl) (se_neg (se_var (pv 2))))) ss_nil) (ss_one (ss_ret (se_tup (sa_cons (se_div (se_var (pv 0)) (se_var (pv 2))) (sa_cons (se_div (se_var (pv 1)) (se_var (pv 2))) sa_nil)))))))
theorem ok_half {f : Addr} {fd : FuncData} (F : Fun K "half" "half" s_half f fd) (gm : mg "half" = some (.ref f)) (h_fraction : Df P w K mg base "fraction" 2 2 F_fraction) : Df P w K mg base "half" 1 3 F_half := by
  have nd : (["one"] : List Str).Nodup := by decide +kernel
  refine df_of (N := ["one"]) (ps := ["one"]) F ⟨rfl, rfl, rfl, nd, rfl, by decide +kernel, by decide +kernel⟩ rfl rfl gm (F.binds (ps := ["one"]) fun _ _ _ _ _ _ us hl => match us, hl with | [_], _ => rfl) fun cdv A outer s0 H E aw hr => ?_
  exact (ss_one (ss_ret (se_call h_fraction hr (by decide) rfl (sa_cons (se_ix (se_var (pv 0)) se_int) (sa_cons (se_mul se_int (se_ix (se_var (pv 0)) se_int)) sa_nil)))))
theorem ok_turned {f : Addr} {fd : FuncData} (F : Fun K "turned" "turned" s_turned f fd) (gm : mg "turned" = some (.ref f)) : Df P w K mg base "turned" 1 1 F_turned := by
  have nd : (["one"] : List Str).Nodup := by decide +kernel
  refine df_of (N := ["one"]) (ps := ["one"]) F ⟨rfl, rfl, rfl, nd, rfl, by decide +kernel, by decide +kernel⟩ rfl rfl gm (F.binds (ps := ["one"]) fun _ _ _ _ _ _ us hl => match us, hl with | [_], _ => rfl) fun cdv A outer s0 H E aw hr => ?_
  exact (ss_one (ss_ret (se_tup (sa_cons (se_neg (se_ix (se_var (pv 0)) se_int)) (sa_cons (se_ix (se_var (pv 0)) se_int) sa_nil)))))
theorem ok_middle_of {f : Addr} {fd : FuncData} (F : Fun K "middle_of" "middle_of" s_middle_of f fd) (gm : mg "middle_of" = some (.ref f)) (h_turned : Df P w K mg base "turned" 1 1 F_turned) (h_half : Df P w K mg base "half" 1 3 F_half) : Df P w K mg base "middle_of" 1 4 F_middle_of := by
  have nd : (["curve"] : List Str).Nodup := by decide +kernel
  refine df_of (N := ["curve"]) (ps := ["curve"]) F ⟨rfl, rfl, rfl, nd, rfl, by decide +kernel, by decide +kernel⟩ rfl rfl gm (F.binds (ps := ["curve"]) fun _ _ _ _ _ _ us hl => match us, hl with | [_], _ => rfl) fun cdv A outer s0 H E aw hr => ?_
  exact (ss_one (ss_ret (se_tup (sa_cons (se_call h_half hr (by decide) rfl (sa_cons (se_call h_turned hr (by decide) rfl (sa_cons (se_ix (se_var (pv 0)) se_int) sa_nil)) sa_nil)) (sa_cons (se_call h_half hr (by decide) rfl (sa_cons (se_call h_turned hr (by decide) rfl (sa_cons (se_ix (se_var (pv 0)) se_int) sa_nil)) sa_nil)) sa_nil)))))
theorem ok_minus {f : Addr} {fd : FuncData} (F : Fun K "minus" "minus" s_minus f fd) (gm : mg "minus" = some (.ref f)) (h_fraction : Df P w K mg base "fraction" 2 2 F_fraction) : Df P w K mg base "minus" 2 3 F_minus := by
  have nd : (["one", "other"] : List Str).Nodup := by decide +kernel
  refine df_of (N := ["one", "other"]) (ps := ["one", "other"]) F ⟨rfl, rfl, rfl, nd, rfl, by decide +kernel, by decide +kernel⟩ rfl rfl gm (F.binds (ps := ["one", "other"]) fun _ _ _ _ _ _ us hl => match us, hl with | [_, _], _ => rfl) fun cdv A outer s0 H E aw hr => ?_
  exact (ss_one (ss_ret (se_call h_fraction hr (by decide) rfl (sa_cons (se_sub (se_mul (se_ix (se_var (pv 0)) se_int) (se_ix (se_var (pv 1)) se_int)) (se_mul (se_ix (se_var (pv 1)) se_int) (se_ix (se_var (pv 0)) se_int))) (sa_cons (se_mul (se_ix (se_var (pv 0)) se_int) (se_ix (se_var (pv 1)) se_int)) sa_nil)))))
theorem ok_added {f : Addr} {fd : FuncData} (F : Fun K "added" "added" s_added f fd) (gm : mg "added" = some (.ref f)) (h_fraction : Df P w K mg base "fraction" 2 2 F_fraction) : Df P w K mg base "added" 2 3 F_added := by
  have nd : (["one", "other"] : List Str).Nodup := by decide +kernel
  refine df_of (N := ["one", "other"]) (ps := ["one", "other"]) F ⟨rfl, rfl, rfl, nd, rfl, by decide +kernel, by decide +kernel⟩ rfl rfl gm (F.binds (ps := ["one", "other"]) fun _ _ _ _ _ _ us hl => match us, hl with | [_, _], _ => rfl) fun cdv A outer s0 H E aw hr => ?_
  exact (ss_one (ss_ret (se_call h_fraction hr (by decide) rfl (sa_cons (se_add (se_mul (se_ix (se_var (pv 0)) se_int) (se_ix (se_var (pv 1)) se_int)) (se_mul (se_ix (se_var (pv 1)) se_int) (se_ix (se_var (pv 0)) se_int))) (sa_cons (se_mul (se_ix (se_var (pv 0)) se_int) (se_ix (se_var (pv 1)) se_int)) sa_nil)))))
theorem ok_square {f : Addr} {fd : FuncData} (F : Fun K "square" "square" s_square f fd) (gm : mg "square" = some (.ref f)) : Df P w K mg base "square" 1 1 F_square := by
  have nd : (["one"] : List Str).Nodup := by decide +kernel
  refine df_of (N := ["one"]) (ps := ["one"]) F ⟨rfl, rfl, rfl, nd, rfl, by decide +kernel, by decide +kernel⟩ rfl rfl gm (F.binds (ps := ["one"]) fun _ _ _ _ _ _ us hl => match us, hl with | [_], _ => rfl) fun cdv A outer s0 H E aw hr => ?_
  exact (ss_one (ss_ret (se_tup (sa_cons (se_mul (se_ix (se_var (pv 0)) se_int) (se_ix (se_var (pv 0)) se_int)) (sa_cons (se_mul (se_ix (se_var (pv 0)) se_int) (se_ix (se_var (pv 0)) se_int)) sa_nil)))))
theorem ok_radius_of {f : Addr} {fd : FuncData} (F : Fun K "radius_of" "radius_of" s_radius_of f fd) (gm : mg "radius_of" = some (.ref f)) (h_middle_of : Df P w K mg base "middle_of" 1 4 F_middle_of) (h_square : Df P w K mg base "square" 1 1 F_square) (h_added : Df P w K mg base "added" 2 3 F_added) (h_minus : Df P w K mg base "minus" 2 3 F_minus) : Df P w K mg base "radius_of" 1 5 F_radius_of := by
  have nd : (["curve", "x", "y"] : List Str).Nodup := by decide +kernel
  refine df_of (N := ["curve", "x", "y"]) (ps := ["curve"]) F ⟨rfl, rfl, rfl, nd, rfl, by decide +kernel, by decide +kernel⟩ rfl rfl gm (F.binds (ps := ["curve"]) fun _ _ _ _ _ _ us hl => match us, hl with | [_], _ => rfl) fun cdv A outer s0 H E aw hr => ?_
  exact (ss_cons (ss_asg (se_call h_middle_of hr (by decide) rfl (sa_cons (se_var (pv 0)) sa_nil)) (sg_tup rfl (sgs_cons (sg_name (pg_name (i := 1) nd rfl (Or.inl rfl))) (sgs_cons (sg_name (pg_name (i := 2) nd rfl (Or.inl rfl))) sgs_nil)))) (ss_one (ss_ret (se_call h_minus hr (by decide) rfl (sa_cons (se_call h_added hr (by decide) rfl (sa_cons (se_call h_square hr (by decide) rfl (sa_cons (se_var (pv 1)) sa_nil)) (sa_cons (se_call h_square hr (by decide) rfl (sa_cons (se_var (pv 2)) sa_nil)) sa_nil))) (sa_cons (se_ix (se_var (pv 0)) se_int) sa_nil))))))
theorem ok_plain {f : Addr} {fd : FuncData} (F : Fun K "plain" "plain" s_plain f fd) (gm : mg "plain" = some (.ref f)) (k_NOTHING : Kst K mg "NOTHING" c_NOTHING) : Df P w K mg base "plain" 1 1 F_plain := by
  have nd : (["a"] : List Str).Nodup := by decide +kernel
  refine df_of (N := ["a"]) (ps := ["a"]) F ⟨rfl, rfl, rfl, nd, rfl, by decide +kernel, by decide +kernel⟩ rfl rfl gm (F.binds (ps := ["a"]) fun _ _ _ _ _ _ us hl => match us, hl with | [_], _ => rfl) fun cdv A outer s0 H E aw hr => ?_
  exact (ss_one (ss_ret (se_tup (sa_cons (se_var (pv 0)) (sa_cons (se_glob k_NOTHING rfl) (sa_cons (se_glob k_NOTHING rfl) sa_nil))))))
theorem ok_whole_root {f : Addr} {fd : FuncData} (F : Fun K "whole_root" "whole_root" s_whole_root f fd) (gm : mg "whole_root" = some (.ref f)) : Df P w K mg base "whole_root" 1 1 F_whole_root := by
  have nd : (["number", "low", "high", "middle"] : List Str).Nodup := by decide +kernel
  refine df_of (N := ["number", "low", "high", "middle"]) (ps := ["number"]) F ⟨rfl, rfl, rfl, nd, rfl, by decide +kernel, by decide +kernel⟩ rfl rfl gm (F.binds (ps := ["number"]) fun _ _ _ _ _ _ us hl => match us, hl with | [_], _ => rfl) fun cdv A outer s0 H E aw hr => ?_
  exact (ss_cons (ss_par (ps_par (i := 1) (j := 2) rfl nd rfl rfl (by decide) rfl rfl (sa_cons se_int (sa_cons (se_add (se_var (pv 0)) se_int) sa_nil)) (by rfl))) (ss_cons (ss_while PassesOwn.never (st_gt (se_sub (se_var (pv 2)) (se_var (pv 1))) se_int) (ss_cons (ss_set (i := 3) nd rfl (Or.inl rfl) (se_div (se_add (se_var (pv 1)) (se_var (pv 2))) se_int)) (ss_one (ss_if (st_le (se_mul (se_var (pv 3)) (se_var (pv 3))) (se_var (pv 0))) (ss_one (ss_set (i := 1) nd rfl (Or.inl rfl) (se_var (pv 3)))) (ss_one (ss_set (i := 2) nd rfl (Or.inl rfl) (se_var (pv 3)))))))) (ss_one (ss_ret (se_if (st_eq hr (se_mul (se_var (pv 1)) (se_var (pv 1))) (se_var (pv 0))) (se_var (pv 1)) se_non)))))
theorem ok_times {f : Addr} {fd : FuncData} (F : Fun K "times" "times" s_times f fd) (gm : mg "times" = some (.ref f)) (h_fraction : Df P w K mg base "fraction" 2 2 F_fraction) : Df P w K mg base "times" 2 3 F_times := by
  have nd : (["one", "other"] : List Str).Nodup := by decide +kernel
  refine df_of (N := ["one", "other"]) (ps := ["one", "other"]) F ⟨rfl, rfl, rfl, nd, rfl, by decide +kernel, by decide +kernel⟩ rfl rfl gm (F.binds (ps := ["one", "other"]) fun _ _ _ _ _ _ us hl => match us, hl with | [_, _], _ => rfl) fun cdv A outer s0 H E aw hr => ?_
  exact (ss_one (ss_ret (se_call h_fraction hr (by decide) rfl (sa_cons (se_mul (se_ix (se_var (pv 0)) se_int) (se_ix (se_var (pv 1)) se_int)) (sa_cons (se_mul (se_ix (se_var (pv 0)) se_int) (se_ix (se_var (pv 1)) se_int)) sa_nil)))))
theorem ok_tidy {f : Addr} {fd : FuncData} (F : Fun K "tidy" "tidy" s_tidy f fd) (gm : mg "tidy" = some (.ref f)) (k_NOTHING : Kst K mg "NOTHING" c_NOTHING) (h_plain : Df P w K mg base "plain" 1 1 F_plain) (h_whole_root : Df P w K mg base "whole_root" 1 1 F_whole_root) (h_times : Df P w K mg base "times" 2 3 F_times) (h_added : Df P w K mg base "added" 2 3 F_added) : Df P w K mg base "tidy" 3 4 F_tidy := by
  have nd : (["a", "b", "c", "upper", "lower"] : List Str).Nodup := by decide +kernel
  refine df_of (N := ["a", "b", "c", "upper", "lower"]) (ps := ["a", "b", "c"]) F ⟨rfl, rfl, rfl, nd, rfl, by decide +kernel, by decide +kernel⟩ rfl rfl gm (F.binds (ps := ["a", "b", "c"]) fun _ _ _ _ _ _ us hl => match us, hl with | [_, _, _], _ => rfl) fun cdv A outer s0 H E aw hr => ?_
  exact (ss_cons (ss_if (st_w (sw_or (st_eq hr (se_var (pv 1)) (se_glob k_NOTHING rfl)) (sw_or1 (st_eq hr (se_var (pv 2)) (se_glob k_NOTHING rfl))))) (ss_one (ss_ret (se_call h_plain hr (by decide) rfl (sa_cons (se_var (pv 0)) sa_nil)))) ss_nil) (ss_cons (ss_par (ps_par (i := 3) (j := 4) rfl nd rfl rfl (by decide) rfl rfl (sa_cons (se_call h_whole_root hr (by decide) rfl (sa_cons (se_ix (se_var (pv 2)) se_int) sa_nil)) (sa_cons (se_call h_whole_root hr (by decide) rfl (sa_cons (se_ix (se_var (pv 2)) se_int) sa_nil)) sa_nil)) (by rfl))) (ss_cons (ss_if (st_w (sw_and (st_notN (se_var (pv 3)) se_non) (sw_and1 (st_notN (se_var (pv 4)) se_non)))) (ss_one (ss_ret (se_call h_plain hr (by decide) rfl (sa_cons (se_call h_added hr (by decide) rfl (sa_cons (se_var (pv 0)) (sa_cons (se_call h_times hr (by decide) rfl (sa_cons (se_var (pv 1)) (sa_cons (se_tup (sa_cons (se_var (pv 3)) (sa_cons (se_var (pv 4)) sa_nil))) sa_nil))) sa_nil))) sa_nil)))) ss_nil) (ss_one (ss_ret (se_tup (sa_cons (se_var (pv 0)) (sa_cons (se_var (pv 1)) (sa_cons (se_var (pv 2)) sa_nil)))))))))
theorem ok_turns_of {f : Addr} {fd : FuncData} (F : Fun K "turns_of" "turns_of" s_turns_of f fd) (gm : mg "turns_of" = some (.ref f)) (h_middle_of : Df P w K mg base "middle_of" 1 4 F_middle_of) (h_radius_of : Df P w K mg base "radius_of" 1 5 F_radius_of) (h_tidy : Df P w K mg base "tidy" 3 4 F_tidy) (h_plain : Df P w K mg base "plain" 1 1 F_plain) : Df P w K mg base "turns_of" 1 6 F_turns_of := by
  have nd : (["curve", "x", "y", "part"] : List Str).Nodup := by decide +kernel
  refine df_of (N := ["curve", "x", "y", "part"]) (ps := ["curve"]) F ⟨rfl, rfl, rfl, nd, rfl, by decide +kernel, by decide +kernel⟩ rfl rfl gm (F.binds (ps := ["curve"]) fun _ _ _ _ _ _ us hl => match us, hl with | [_], _ => rfl) fun cdv A outer s0 H E aw hr => ?_
  exact (ss_cons (ss_if (st_eq hr (se_ix (se_var (pv 0)) se_int) se_int) (ss_one (ss_ret (se_lst sa_nil))) ss_nil) (ss_cons (ss_asg (se_call h_middle_of hr (by decide) rfl (sa_cons (se_var (pv 0)) sa_nil)) (sg_tup rfl (sgs_cons (sg_name (pg_name (i := 1) nd rfl (Or.inl rfl))) (sgs_cons (sg_name (pg_name (i := 2) nd rfl (Or.inl rfl))) sgs_nil)))) (ss_cons (ss_set (i := 3) nd rfl (Or.inl rfl) (se_call h_radius_of hr (by decide) rfl (sa_cons (se_var (pv 0)) sa_nil))) (ss_one (ss_ret (se_lst (sa_cons (se_tup (sa_cons (se_call h_tidy hr (by decide) rfl (sa_cons (se_var (pv 1)) (sa_cons (se_tup (sa_cons (se_neg se_int) (sa_cons se_int sa_nil))) (sa_cons (se_var (pv 3)) sa_nil)))) (sa_cons (se_call h_plain hr (by decide) rfl (sa_cons (se_var (pv 2)) sa_nil)) sa_nil))) (sa_cons (se_tup (sa_cons (se_call h_tidy hr (by decide) rfl (sa_cons (se_var (pv 1)) (sa_cons (se_tup (sa_cons se_int (sa_cons se_int sa_nil))) (sa_cons (se_var (pv 3)) sa_nil)))) (sa_cons (se_call h_plain hr (by decide) rfl (sa_cons (se_var (pv 2)) sa_nil)) sa_nil))) sa_nil))))))))
theorem ok_over {f : Addr} {fd : FuncData} (F : Fun K "over" "over" s_over f fd) (gm : mg "over" = some (.ref f)) (h_fraction : Df P w K mg base "fraction" 2 2 F_fraction) : Df P w K mg base "over" 2 3 F_over := by
  have nd : (["one", "other"] : List Str).Nodup := by decide +kernel
  refine df_of (N := ["one", "other"]) (ps := ["one", "other"]) F ⟨rfl, rfl, rfl, nd, rfl, by decide +kernel, by decide +kernel⟩ rfl rfl gm (F.binds (ps := ["one", "other"]) fun _ _ _ _ _ _ us hl => match us, hl with | [_, _], _ => rfl) fun cdv A outer s0 H E aw hr => ?_
  exact (ss_one (ss_ret (se_call h_fraction hr (by decide) rfl (sa_cons (se_mul (se_ix (se_var (pv 0)) se_int) (se_ix (se_var (pv 1)) se_int)) (sa_cons (se_mul (se_ix (se_var (pv 0)) se_int) (se_ix (se_var (pv 1)) se_int)) sa_nil)))))
theorem ok_sign_of {f : Addr} {fd : FuncData} (F : Fun K "sign_of" "sign_of" s_sign_of f fd) (gm : mg "sign_of" = some (.ref f)) : Df P w K mg base "sign_of" 1 1 F_sign_of := by
  have nd : (["number"] : List Str).Nodup := by decide +kernel
  refine df_of (N := ["number"]) (ps := ["number"]) F ⟨rfl, rfl, rfl, nd, rfl, by decide +kernel, by decide +kernel⟩ rfl rfl gm (F.binds (ps := ["number"]) fun _ _ _ _ _ _ us hl => match us, hl with | [_], _ => rfl) fun cdv A outer s0 H E aw hr => ?_
  exact (ss_one (ss_ret (se_subB (se_gt (se_var (pv 0)) se_int) (se_lt (se_var (pv 0)) se_int))))
theorem ok_sign {f : Addr} {fd : FuncData} (F : Fun K "sign" "sign" s_sign f fd) (gm : mg "sign" = some (.ref f)) (h_sign_of : Df P w K mg base "sign_of" 1 1 F_sign_of) : Df P w K mg base "sign" 1 2 F_sign := by
  have nd : (["one"] : List Str).Nodup := by decide +kernel
  refine df_of (N := ["one"]) (ps := ["one"]) F ⟨rfl, rfl, rfl, nd, rfl, by decide +kernel, by decide +kernel⟩ rfl rfl gm (F.binds (ps := ["one"]) fun _ _ _ _ _ _ us hl => match us, hl with | [_], _ => rfl) fun cdv A outer s0 H E aw hr => ?_
  exact (ss_one (ss_ret (se_call h_sign_of hr (by decide) rfl (sa_cons (se_ix (se_var (pv 0)) se_int) sa_nil))))
theorem okx_circle {f : Addr} {fd : FuncData} (F : Fun K "circle" "circle" s_circle f fd) (gm : mg "circle" = some (.ref f)) (h_sign : Df P w K mg base "sign" 1 2 F_sign) (h_square : Df P w K mg base "square" 1 1 F_square) (h_added : Df P w K mg base "added" 2 3 F_added) (h_minus : Df P w K mg base "minus" 2 3 F_minus) (h_times : Df P w K mg base "times" 2 3 F_times) (RA : RaiseAt P w K mg base "Unfit" C) : Dx P w K mg base C "circle" 3 4 FX_circle := by
  have nd : (["x", "y", "r", "rest"] : List Str).Nodup := by decide +kernel
  refine dx_of (N := ["x", "y", "r", "rest"]) (ps := ["x", "y", "r"]) F ⟨rfl, rfl, rfl, nd, rfl, by decide +kernel, by decide +kernel⟩ rfl rfl gm (F.binds (ps := ["x", "y", "r"]) fun _ _ _ _ _ _ us hl => match us, hl with | [_, _, _], _ => rfl) fun cdv A outer s0 H E aw hr tk => ?_
  exact (ssx_cons (ssx_if (st_le (se_call h_sign hr (by decide) rfl (sa_cons (se_var (pv 2)) sa_nil)) se_int) (ssx_one (ssx_raise rfl tk RA hr rfl (by decide))) ssx_nil) (ssx_cons (ssx_of (ss_set (i := 3) nd rfl (Or.inl rfl) (se_call h_minus hr (by decide) rfl (sa_cons (se_call h_added hr (by decide) rfl (sa_cons (se_call h_square hr (by decide) rfl (sa_cons (se_var (pv 0)) sa_nil)) (sa_cons (se_call h_square hr (by decide) rfl (sa_cons (se_var (pv 1)) sa_nil)) sa_nil))) (sa_cons (se_var (pv 2)) sa_nil))))) (ssx_one (ssx_of (ss_ret (se_tup (sa_cons se_int (sa_cons (se_call h_times hr (by decide) rfl (sa_cons (se_tup (sa_cons (se_neg se_int) (sa_cons se_int sa_nil))) (sa_cons (se_var (pv 0)) sa_nil))) (sa_cons (se_call h_times hr (by decide) rfl (sa_cons (se_tup (sa_cons (se_neg se_int) (sa_cons se_int sa_nil))) (sa_cons (se_var (pv 1)) sa_nil))) (sa_cons (se_var (pv 3)) sa_nil))))))))))
theorem okx_circle_through {f : Addr} {fd : FuncData} (F : Fun K "circle_through" "circle_through" s_circle_through f fd) (gm : mg "circle_through" = some (.ref f)) (k_NOTHING : Kst K mg "NOTHING" c_NOTHING) (h_square : Df P w K mg base "square" 1 1 F_square) (h_added : Df P w K mg base "added" 2 3 F_added) (h_minus : Df P w K mg base "minus" 2 3 F_minus) (h_times : Df P w K mg base "times" 2 3 F_times) (h_over : Df P w K mg base "over" 2 3 F_over) (x_circle : Dx P w K mg base C "circle" 3 4 FX_circle) (RA : RaiseAt P w K mg base "Unfit" C) : Dx P w K mg base C "circle_through" 3 5 FX_circle_through := by
  have nd : (["one", "other", "third", "rows", "x", "y", "s", "u", "v", "t", "p", "q", "w", "a", "b", "c", "d", "e", "f", "low", "m", "n"] : List Str).Nodup := by decide +kernel
  refine dx_of (N := ["one", "other", "third", "rows", "x", "y", "s", "u", "v", "t", "p", "q", "w", "a", "b", "c", "d", "e", "f", "low", "m", "n"]) (ps := ["one", "other", "third"]) F ⟨rfl, rfl, rfl, nd, rfl, by decide +kernel, by decide +kernel⟩ rfl rfl gm (F.binds (ps := ["one", "other", "third"]) fun _ _ _ _ _ _ us hl => match us, hl with | [_, _, _], _ => rfl) fun cdv A outer s0 H E aw hr tk => ?_
  exact (ssx_cons (ssx_of (ss_own (i := 3) (fun _ he => ps_set (i := 3) nd rfl (Or.inl rfl) he) sa_nil)) (ssx_cons (ssx_of (ss_for (passes_of rfl) rfl (si_tup (se_tup (sa_cons (se_var (pv 0)) (sa_cons (se_var (pv 1)) (sa_cons (se_var (pv 2)) sa_nil))))) (sg_tup rfl (sgs_cons (sg_name (pg_name (i := 4) nd rfl (Or.inl rfl))) (sgs_cons (sg_name (pg_name (i := 5) nd rfl (Or.inl rfl))) sgs_nil))) (ss_one (ss_app (ps_expr (pe_bm PySem.F.plainAttrs_list PySem.F.slot_list_append PySem.F.type_list_append mt_append (pv 3) (sa_cons (se_tup (sa_cons (se_var (pv 4)) (sa_cons (se_var (pv 5)) (sa_cons (se_call h_added hr (by decide) rfl (sa_cons (se_call h_square hr (by decide) rfl (sa_cons (se_var (pv 4)) sa_nil)) (sa_cons (se_call h_square hr (by decide) rfl (sa_cons (se_var (pv 5)) sa_nil)) sa_nil))) sa_nil)))) sa_nil))))))) (ssx_freeze (i := 3) (ssx_cons (ssx_of (ss_asg (se_var (pv 3)) (sg_lst rfl (sgs_cons (sg_tup rfl (sgs_cons (sg_name (pg_name (i := 4) nd rfl (Or.inl rfl))) (sgs_cons (sg_name (pg_name (i := 5) nd rfl (Or.inl rfl))) (sgs_cons (sg_name (pg_name (i := 6) nd rfl (Or.inl rfl))) sgs_nil)))) (sgs_cons (sg_tup rfl (sgs_cons (sg_name (pg_name (i := 7) nd rfl (Or.inl rfl))) (sgs_cons (sg_name (pg_name (i := 8) nd rfl (Or.inl rfl))) (sgs_cons (sg_name (pg_name (i := 9) nd rfl (Or.inl rfl))) sgs_nil)))) (sgs_cons (sg_tup rfl (sgs_cons (sg_name (pg_name (i := 10) nd rfl (Or.inl rfl))) (sgs_cons (sg_name (pg_name (i := 11) nd rfl (Or.inl rfl))) (sgs_cons (sg_name (pg_name (i := 12) nd rfl (Or.inl rfl))) sgs_nil)))) sgs_nil)))))) (ssx_cons (ssx_of (ss_par3 (ps_par3 (i := 13) (j := 14) (l := 15) rfl nd rfl rfl rfl (by decide) (by decide) (by decide) rfl rfl rfl (sa_cons (se_call h_minus hr (by decide) rfl (sa_cons (se_var (pv 7)) (sa_cons (se_var (pv 4)) sa_nil))) (sa_cons (se_call h_minus hr (by decide) rfl (sa_cons (se_var (pv 8)) (sa_cons (se_var (pv 5)) sa_nil))) (sa_cons (se_call h_minus hr (by decide) rfl (sa_cons (se_var (pv 9)) (sa_cons (se_var (pv 6)) sa_nil))) sa_nil))) (by rfl)))) (ssx_cons (ssx_of (ss_par3 (ps_par3 (i := 16) (j := 17) (l := 18) rfl nd rfl rfl rfl (by decide) (by decide) (by decide) rfl rfl rfl (sa_cons (se_call h_minus hr (by decide) rfl (sa_cons (se_var (pv 10)) (sa_cons (se_var (pv 4)) sa_nil))) (sa_cons (se_call h_minus hr (by decide) rfl (sa_cons (se_var (pv 11)) (sa_cons (se_var (pv 5)) sa_nil))) (sa_cons (se_call h_minus hr (by decide) rfl (sa_cons (se_var (pv 12)) (sa_cons (se_var (pv 6)) sa_nil))) sa_nil))) (by rfl)))) (ssx_cons (ssx_of (ss_set (i := 19) nd rfl (Or.inl rfl) (se_call h_times hr (by decide) rfl (sa_cons (se_tup (sa_cons se_int (sa_cons se_int sa_nil))) (sa_cons (se_call h_minus hr (by decide) rfl (sa_cons (se_call h_times hr (by decide) rfl (sa_cons (se_var (pv 13)) (sa_cons (se_var (pv 17)) sa_nil))) (sa_cons (se_call h_times hr (by decide) rfl (sa_cons (se_var (pv 14)) (sa_cons (se_var (pv 16)) sa_nil))) sa_nil))) sa_nil))))) (ssx_cons (ssx_if (st_eq hr (se_var (pv 19)) (se_glob k_NOTHING rfl)) (ssx_one (ssx_raise rfl tk RA hr rfl (by decide))) ssx_nil) (ssx_cons (ssx_of (ss_set (i := 20) nd rfl (Or.inl rfl) (se_call h_over hr (by decide) rfl (sa_cons (se_call h_minus hr (by decide) rfl (sa_cons (se_call h_times hr (by decide) rfl (sa_cons (se_var (pv 15)) (sa_cons (se_var (pv 17)) sa_nil))) (sa_cons (se_call h_times hr (by decide) rfl (sa_cons (se_var (pv 14)) (sa_cons (se_var (pv 18)) sa_nil))) sa_nil))) (sa_cons (se_var (pv 19)) sa_nil))))) (ssx_cons (ssx_of (ss_set (i := 21) nd rfl (Or.inl rfl) (se_call h_over hr (by decide) rfl (sa_cons (se_call h_minus hr (by decide) rfl (sa_cons (se_call h_times hr (by decide) rfl (sa_cons (se_var (pv 13)) (sa_cons (se_var (pv 18)) sa_nil))) (sa_cons (se_call h_times hr (by decide) rfl (sa_cons (se_var (pv 15)) (sa_cons (se_var (pv 16)) sa_nil))) sa_nil))) (sa_cons (se_var (pv 19)) sa_nil))))) (ssx_one (ssx_ret (se_callX x_circle hr (by decide) tk rfl (sa_cons (se_var (pv 20)) (sa_cons (se_var (pv 21)) (sa_cons (se_call h_added hr (by decide) rfl (sa_cons (se_call h_square hr (by decide) rfl (sa_cons (se_call h_minus hr (by decide) rfl (sa_cons (se_var (pv 4)) (sa_cons (se_var (pv 20)) sa_nil))) sa_nil)) (sa_cons (se_call h_square hr (by decide) rfl (sa_cons (se_call h_minus hr (by decide) rfl (sa_cons (se_var (pv 5)) (sa_cons (se_var (pv 21)) sa_nil))) sa_nil)) sa_nil))) sa_nil))))))))))))))))
theorem okx_line {f : Addr} {fd : FuncData} (F : Fun K "line" "line" s_line f fd) (gm : mg "line" = some (.ref f)) (k_NOTHING : Kst K mg "NOTHING" c_NOTHING) (h_over : Df P w K mg base "over" 2 3 F_over) (RA : RaiseAt P w K mg base "Unfit" C) : Dx P w K mg base C "line" 3 4 FX_line := by
  have nd : (["a", "b", "c", "first"] : List Str).Nodup := by decide +kernel
  refine dx_of (N := ["a", "b", "c", "first"]) (ps := ["a", "b", "c"]) F ⟨rfl, rfl, rfl, nd, rfl, by decide +kernel, by decide +kernel⟩ rfl rfl gm (F.binds (ps := ["a", "b", "c"]) fun _ _ _ _ _ _ us hl => match us, hl with | [_, _, _], _ => rfl) fun cdv A outer s0 H E aw hr tk => ?_
  exact (ssx_cons (ssx_of (ss_set (i := 3) nd rfl (Or.inl rfl) (se_if (st_ne hr (se_var (pv 0)) (se_glob k_NOTHING rfl)) (se_var (pv 0)) (se_var (pv 1))))) (ssx_cons (ssx_if (st_eq hr (se_var (pv 3)) (se_glob k_NOTHING rfl)) (ssx_one (ssx_raise rfl tk RA hr rfl (by decide))) ssx_nil) (ssx_one (ssx_of (ss_ret (se_tup (sa_cons (se_tup (sa_cons se_int (sa_cons (se_call h_over hr (by decide) rfl (sa_cons (se_var (pv 0)) (sa_cons (se_var (pv 3)) sa_nil))) (sa_cons (se_call h_over hr (by decide) rfl (sa_cons (se_var (pv 1)) (sa_cons (se_var (pv 3)) sa_nil))) (sa_cons (se_call h_over hr (by decide) rfl (sa_cons (se_var (pv 2)) (sa_cons (se_var (pv 3)) sa_nil))) sa_nil))))) (sa_cons (se_lt (se_ix (se_var (pv 3)) se_int) se_int) sa_nil))))))))
theorem okx_line_through {f : Addr} {fd : FuncData} (F : Fun K "line_through" "line_through" s_line_through f fd) (gm : mg "line_through" = some (.ref f)) (h_minus : Df P w K mg base "minus" 2 3 F_minus) (h_times : Df P w K mg base "times" 2 3 F_times) (h_added : Df P w K mg base "added" 2 3 F_added) (h_turned : Df P w K mg base "turned" 1 1 F_turned) (x_line : Dx P w K mg base C "line" 3 4 FX_line) : Dx P w K mg base C "line_through" 2 5 FX_line_through := by
  have nd : (["one", "other", "x", "y", "u", "v", "a", "b", "curve", "is_turned"] : List Str).Nodup := by decide +kernel
  refine dx_of (N := ["one", "other", "x", "y", "u", "v", "a", "b", "curve", "is_turned"]) (ps := ["one", "other"]) F ⟨rfl, rfl, rfl, nd, rfl, by decide +kernel, by decide +kernel⟩ rfl rfl gm (F.binds (ps := ["one", "other"]) fun _ _ _ _ _ _ us hl => match us, hl with | [_, _], _ => rfl) fun cdv A outer s0 H E aw hr tk => ?_
  exact (ssx_cons (ssx_of (ss_asg (se_tup (sa_cons (se_var (pv 0)) (sa_cons (se_var (pv 1)) sa_nil))) (sg_tup rfl (sgs_cons (sg_tup rfl (sgs_cons (sg_name (pg_name (i := 2) nd rfl (Or.inl rfl))) (sgs_cons (sg_name (pg_name (i := 3) nd rfl (Or.inl rfl))) sgs_nil))) (sgs_cons (sg_tup rfl (sgs_cons (sg_name (pg_name (i := 4) nd rfl (Or.inl rfl))) (sgs_cons (sg_name (pg_name (i := 5) nd rfl (Or.inl rfl))) sgs_nil))) sgs_nil))))) (ssx_cons (ssx_of (ss_par (ps_par (i := 6) (j := 7) rfl nd rfl rfl (by decide) rfl rfl (sa_cons (se_call h_minus hr (by decide) rfl (sa_cons (se_var (pv 3)) (sa_cons (se_var (pv 5)) sa_nil))) (sa_cons (se_call h_minus hr (by decide) rfl (sa_cons (se_var (pv 4)) (sa_cons (se_var (pv 2)) sa_nil))) sa_nil)) (by rfl)))) (ssx_cons (ssx_asg (se_callX x_line hr (by decide) tk rfl (sa_cons (se_var (pv 6)) (sa_cons (se_var (pv 7)) (sa_cons (se_call h_turned hr (by decide) rfl (sa_cons (se_call h_added hr (by decide) rfl (sa_cons (se_call h_times hr (by decide) rfl (sa_cons (se_var (pv 6)) (sa_cons (se_var (pv 2)) sa_nil))) (sa_cons (se_call h_times hr (by decide) rfl (sa_cons (se_var (pv 7)) (sa_cons (se_var (pv 3)) sa_nil))) sa_nil))) sa_nil)) sa_nil)))) (sg_tup rfl (sgs_cons (sg_name (pg_name (i := 8) nd rfl (Or.inl rfl))) (sgs_cons (sg_name (pg_name (i := 9) nd rfl (Or.inl rfl))) sgs_nil)))) (ssx_one (ssx_of (ss_ret (se_tup (sa_cons (se_var (pv 8)) (sa_cons (se_not (se_var (pv 9))) sa_nil)))))))))
theorem ok__law_try {f : Addr} {fd : FuncData} (F : Fun K "_law_try" "_law_try" s__law_try f fd) (gm : mg "_law_try" = some (.ref f)) (x_circle_through : Dx P w K mg base C "circle_through" 3 5 FX_circle_through) (x_line_through : Dx P w K mg base C "line_through" 2 5 FX_line_through) (TA : TryAt K mg C CP) : Df P w K mg base "_law_try" 2 6 F__law_try := by
  have nd : (["word", "points", "e"] : List Str).Nodup := by decide +kernel
  refine df_of (N := ["word", "points", "e"]) (ps := ["word", "points"]) F ⟨rfl, rfl, rfl, nd, rfl, by decide +kernel, by decide +kernel⟩ rfl rfl gm (F.binds (ps := ["word", "points"]) fun _ _ _ _ _ _ us hl => match us, hl with | [_, _], _ => rfl) fun cdv A outer s0 H E aw hr => ?_
  exact (ss_one (ss_tryU (i := 2) TA rfl rfl nd rfl rfl rfl rfl rfl (fun W pn xe tk => (ssx_one (ssx_ret (sex_if (st_eq hr (se_var (pv 0)) se_str) (se_callX x_circle_through hr (by decide) tk rfl (sa_cons (se_ix (se_var (pv 1)) se_int) (sa_cons (se_ix (se_var (pv 1)) se_int) (sa_cons (se_ix (se_var (pv 1)) se_int) sa_nil)))) (se_callX x_line_through hr (by decide) tk rfl (sa_cons (se_ix (se_var (pv 1)) se_int) (sa_cons (se_ix (se_var (pv 1)) se_int) sa_nil))))))) (fun _ => rfl) (fun _ _ => rfl) (fun _ => rfl) (fun _ => rfl) (fun _ => rfl)))
theorem ok_is_number {f : Addr} {fd : FuncData} (F : Fun K "is_number" "is_number" s_is_number f fd) (gm : mg "is_number" = some (.ref f)) (b_isinstance : mg "isinstance" = none) (b_int : mg "int" = none) (b_bool : mg "bool" = none) : Df P w K mg base "is_number" 1 1 F_is_number := by
  have nd : (["thing"] : List Str).Nodup := by decide +kernel
  refine df_of (N := ["thing"]) (ps := ["thing"]) F ⟨rfl, rfl, rfl, nd, rfl, by decide +kernel, by decide +kernel⟩ rfl rfl gm (F.binds (ps := ["thing"]) fun _ _ _ _ _ _ us hl => match us, hl with | [_], _ => rfl) fun cdv A outer s0 H E aw hr => ?_
  exact (ss_one (ss_ret (se_and (se_isi boot_t_int (by decide) rfl b_int rfl b_isinstance (se_var (pv 0))) (se_one (se_not (se_isi boot_t_bool (by decide) rfl b_bool rfl b_isinstance (se_var (pv 0))))))))
theorem ok_is_fraction {f : Addr} {fd : FuncData} (F : Fun K "is_fraction" "is_fraction" s_is_fraction f fd) (gm : mg "is_fraction" = some (.ref f)) (b_isinstance : mg "isinstance" = none) (b_tuple : mg "tuple" = none) (b_len : mg "len" = none) (h_is_number : Df P w K mg base "is_number" 1 1 F_is_number) (h_common : Df P w K mg base "common" 2 1 F_common) : Df P w K mg base "is_fraction" 1 2 F_is_fraction := by
  have nd : (["thing"] : List Str).Nodup := by decide +kernel
  refine df_of (N := ["thing"]) (ps := ["thing"]) F ⟨rfl, rfl, rfl, nd, rfl, by decide +kernel, by decide +kernel⟩ rfl rfl gm (F.binds (ps := ["thing"]) fun _ _ _ _ _ _ us hl => match us, hl with | [_], _ => rfl) fun cdv A outer s0 H E aw hr => ?_
  exact (ss_cons (ss_if (st_w (sw_or (st_not (st_val (se_isi boot_t_tuple (by decide) rfl b_tuple rfl b_isinstance (se_var (pv 0))))) (sw_or (st_ne hr (se_len rfl b_len (sa_cons (se_var (pv 0)) sa_nil)) se_int) (sw_or (st_not (st_val (se_call h_is_number hr (by decide) rfl (sa_cons (se_ix (se_var (pv 0)) se_int) sa_nil)))) (sw_or1 (st_not (st_val (se_call h_is_number hr (by decide) rfl (sa_cons (se_ix (se_var (pv 0)) se_int) sa_nil))))))))) (ss_one (ss_ret se_bl)) ss_nil) (ss_one (ss_ret (se_and (se_ge (se_ix (se_var (pv 0)) se_int) se_int) (se_one (se_eq hr (se_call h_common hr (by decide) rfl (sa_cons (se_ix (se_var (pv 0)) se_int) (sa_cons (se_ix (se_var (pv 0)) se_int) sa_nil))) se_int))))))
theorem ok_is_curve {f : Addr} {fd : FuncData} (F : Fun K "is_curve" "is_curve" s_is_curve f fd) (gm : mg "is_curve" = some (.ref f)) (k_NOTHING : Kst K mg "NOTHING" c_NOTHING) (b_isinstance : mg "isinstance" = none) (b_tuple : mg "tuple" = none) (b_len : mg "len" = none) (b_all : mg "all" = none) (b_bool : mg "bool" = none) (b_int : mg "int" = none) (h_is_fraction : Df P w K mg base "is_fraction" 1 2 F_is_fraction) (h_radius_of : Df P w K mg base "radius_of" 1 5 F_radius_of) (h_sign : Df P w K mg base "sign" 1 2 F_sign) : Df P w K mg base "is_curve" 1 6 F_is_curve := by
  have nd : (["thing", "one"] : List Str).Nodup := by decide +kernel
  refine df_of (N := ["thing", "one"]) (ps := ["thing"]) F ⟨rfl, rfl, rfl, nd, rfl, by decide +kernel, by decide +kernel⟩ rfl rfl gm (F.binds (ps := ["thing"]) fun _ _ _ _ _ _ us hl => match us, hl with | [_], _ => rfl) fun cdv A outer s0 H E aw hr => ?_
  exact (ss_cons (ss_if (st_w (sw_or (st_not (st_val (se_isi boot_t_tuple (by decide) rfl b_tuple rfl b_isinstance (se_var (pv 0))))) (sw_or (st_ne hr (se_len rfl b_len (sa_cons (se_var (pv 0)) sa_nil)) se_int) (sw_or1 (st_not (st_val (se_allc rfl rfl b_all (sa_cons (se_lc (own := [("one", 1)]) rfl nd (blkOk_by (own := [("one", 1)]) rfl) (si_c (si_tup (se_sl (se_var (pv 0)) (so_some se_int) so_none))) (fun _ _ _ _ _ => (sg_name (pg_name (i := 1) nd rfl (Or.inl rfl)))) (fun _ _ _ _ _ => sts_nil) (fun _ _ _ _ _ => (se_call h_is_fraction hr (by decide) rfl (sa_cons (se_var (pv 1)) sa_nil)))) sa_nil)))))))) (ss_one (ss_ret se_bl)) ss_nil) (ss_cons (ss_if (st_w (sw_or (st_val (se_isi boot_t_bool (by decide) rfl b_bool rfl b_isinstance (se_ix (se_var (pv 0)) se_int))) (sw_or (st_notInT (se_ix (se_var (pv 0)) se_int) (se_tup (sa_cons se_int (sa_cons se_int sa_nil)))) (sw_or1 (st_not (st_val (se_isi boot_t_int (by decide) rfl b_int rfl b_isinstance (se_ix (se_var (pv 0)) se_int)))))))) (ss_one (ss_ret se_bl)) ss_nil) (ss_cons (ss_if (st_eq hr (se_ix (se_var (pv 0)) se_int) se_int) (ss_one (ss_ret (se_gt (se_call h_sign hr (by decide) rfl (sa_cons (se_call h_radius_of hr (by decide) rfl (sa_cons (se_var (pv 0)) sa_nil)) sa_nil)) se_int))) ss_nil) (ss_one (ss_ret (se_or (se_eq hr (se_ix (se_var (pv 0)) se_int) (se_tup (sa_cons se_int (sa_cons se_int sa_nil)))) (se_one (se_and (se_eq hr (se_ix (se_var (pv 0)) se_int) (se_glob k_NOTHING rfl)) (se_one (se_eq hr (se_ix (se_var (pv 0)) se_int) (se_tup (sa_cons se_int (sa_cons se_int sa_nil)))))))))))))
theorem ok__law_point {f : Addr} {fd : FuncData} (F : Fun K "_law_point" "_law_point" s__law_point f fd) (gm : mg "_law_point" = some (.ref f)) : Df P w K mg base "_law_point" 2 1 F__law_point := by
  have nd : (["x", "y"] : List Str).Nodup := by decide +kernel
  refine df_of (N := ["x", "y"]) (ps := ["x", "y"]) F ⟨rfl, rfl, rfl, nd, rfl, by decide +kernel, by decide +kernel⟩ rfl rfl gm (F.binds (ps := ["x", "y"]) fun _ _ _ _ _ _ us hl => match us, hl with | [_, _], _ => rfl) fun cdv A outer s0 H E aw hr => ?_
  exact (ss_one (ss_ret (se_tup (sa_cons (se_tup (sa_cons (se_var (pv 0)) (sa_cons (se_tup (sa_cons se_int (sa_cons se_int sa_nil))) (sa_cons (se_tup (sa_cons se_int (sa_cons se_int sa_nil))) sa_nil)))) (sa_cons (se_tup (sa_cons (se_var (pv 1)) (sa_cons (se_tup (sa_cons se_int (sa_cons se_int sa_nil))) (sa_cons (se_tup (sa_cons se_int (sa_cons se_int sa_nil))) sa_nil)))) sa_nil)))))
theorem ok__law_says {f : Addr} {fd : FuncData} (F : Fun K "_law_says" "_law_says" s__law_says f fd) (gm : mg "_law_says" = some (.ref f)) (b_isinstance : mg "isinstance" = none) (b_bool : mg "bool" = none) : Df P w K mg base "_law_says" 2 1 F__law_says := by
  have nd : (["seen", "due"] : List Str).Nodup := by decide +kernel
  refine df_of (N := ["seen", "due"]) (ps := ["seen", "due"]) F ⟨rfl, rfl, rfl, nd, rfl, by decide +kernel, by decide +kernel⟩ rfl rfl gm (F.binds (ps := ["seen", "due"]) fun _ _ _ _ _ _ us hl => match us, hl with | [_, _], _ => rfl) fun cdv A outer s0 H E aw hr => ?_
  exact (ss_one (ss_ret (se_and (se_isi boot_t_bool (by decide) rfl b_bool rfl b_isinstance (se_var (pv 0))) (se_one (se_eq hr (se_var (pv 0)) (se_var (pv 1)))))))
theorem ok__law_sgn {f : Addr} {fd : FuncData} (F : Fun K "_law_sgn" "_law_sgn" s__law_sgn f fd) (gm : mg "_law_sgn" = some (.ref f)) : Df P w K mg base "_law_sgn" 1 1 F__law_sgn := by
  have nd : (["one"] : List Str).Nodup := by decide +kernel
  refine df_of (N := ["one"]) (ps := ["one"]) F ⟨rfl, rfl, rfl, nd, rfl, by decide +kernel, by decide +kernel⟩ rfl rfl gm (F.binds (ps := ["one"]) fun _ _ _ _ _ _ us hl => match us, hl with | [_], _ => rfl) fun cdv A outer s0 H E aw hr => ?_
  exact (ss_one (ss_ret (se_sub (se_if (st_gt (se_ix (se_var (pv 0)) se_int) se_int) se_int se_int) (se_if (st_lt (se_ix (se_var (pv 0)) se_int) se_int) se_int se_int))))
theorem ok__law_sign {f : Addr} {fd : FuncData} (F : Fun K "_law_sign" "_law_sign" s__law_sign f fd) (gm : mg "_law_sign" = some (.ref f)) (h__law_sgn : Df P w K mg base "_law_sgn" 1 1 F__law_sgn) (h__law_mul : Df P w K mg base "_law_mul" 2 2 F__law_mul) (h__law_less : Df P w K mg base "_law_less" 2 2 F__law_less) : Df P w K mg base "_law_sign" 1 3 F__law_sign := by
  have nd : (["one", "a", "b", "c", "s", "t", "gap"] : List Str).Nodup := by decide +kernel
  refine df_of (N := ["one", "a", "b", "c", "s", "t", "gap"]) (ps := ["one"]) F ⟨rfl, rfl, rfl, nd, rfl, by decide +kernel, by decide +kernel⟩ rfl rfl gm (F.binds (ps := ["one"]) fun _ _ _ _ _ _ us hl => match us, hl with | [_], _ => rfl) fun cdv A outer s0 H E aw hr => ?_
  exact (ss_cons (ss_asg (se_var (pv 0)) (sg_tup rfl (sgs_cons (sg_name (pg_name (i := 1) nd rfl (Or.inl rfl))) (sgs_cons (sg_name (pg_name (i := 2) nd rfl (Or.inl rfl))) (sgs_cons (sg_name (pg_name (i := 3) nd rfl (Or.inl rfl))) sgs_nil))))) (ss_cons (ss_par (ps_par (i := 4) (j := 5) rfl nd rfl rfl (by decide) rfl rfl (sa_cons (se_call h__law_sgn hr (by decide) rfl (sa_cons (se_var (pv 1)) sa_nil)) (sa_cons (se_if (st_gt (se_ix (se_var (pv 3)) se_int) se_int) (se_call h__law_sgn hr (by decide) rfl (sa_cons (se_var (pv 2)) sa_nil)) se_int) sa_nil)) (by rfl))) (ss_cons (ss_if (st_w (sw_or (st_eq hr (se_var (pv 4)) (se_var (pv 5))) (sw_or1 (st_eq hr (se_var (pv 5)) se_int)))) (ss_one (ss_ret (se_var (pv 4)))) ss_nil) (ss_cons (ss_set (i := 6) nd rfl (Or.inl rfl) (se_call h__law_sgn hr (by decide) rfl (sa_cons (se_call h__law_less hr (by decide) rfl (sa_cons (se_call h__law_mul hr (by decide) rfl (sa_cons (se_var (pv 1)) (sa_cons (se_var (pv 1)) sa_nil))) (sa_cons (se_call h__law_mul hr (by decide) rfl (sa_cons (se_call h__law_mul hr (by decide) rfl (sa_cons (se_var (pv 2)) (sa_cons (se_var (pv 2)) sa_nil))) (sa_cons (se_var (pv 3)) sa_nil))) sa_nil))) sa_nil))) (ss_one (ss_ret (se_if (st_eq hr (se_var (pv 4)) se_int) (se_var (pv 5)) (se_mul (se_var (pv 4)) (se_var (pv 6))))))))))
theorem ok__law_value {f : Addr} {fd : FuncData} (F : Fun K "_law_value" "_law_value" s__law_value f fd) (gm : mg "_law_value" = some (.ref f)) (h__law_mul : Df P w K mg base "_law_mul" 2 2 F__law_mul) (h__law_add : Df P w K mg base "_law_add" 2 2 F__law_add) : Df P w K mg base "_law_value" 2 3 F__law_value := by
  have nd : (["curve", "point", "p", "q", "c", "r", "s", "d", "k", "a", "b", "rest", "bare", "root"] : List Str).Nodup := by decide +kernel
  refine df_of (N := ["curve", "point", "p", "q", "c", "r", "s", "d", "k", "a", "b", "rest", "bare", "root"]) (ps := ["curve", "point"]) F ⟨rfl, rfl, rfl, nd, rfl, by decide +kernel, by decide +kernel⟩ rfl rfl gm (F.binds (ps := ["curve", "point"]) fun _ _ _ _ _ _ us hl => match us, hl with | [_, _], _ => rfl) fun cdv A outer s0 H E aw hr => ?_
  exact (ss_cons (ss_asg (se_var (pv 1)) (sg_tup rfl (sgs_cons (sg_tup rfl (sgs_cons (sg_name (pg_name (i := 2) nd rfl (Or.inl rfl))) (sgs_cons (sg_name (pg_name (i := 3) nd rfl (Or.inl rfl))) (sgs_cons (sg_name (pg_name (i := 4) nd rfl (Or.inl rfl))) sgs_nil)))) (sgs_cons (sg_tup rfl (sgs_cons (sg_name (pg_name (i := 5) nd rfl (Or.inl rfl))) (sgs_cons (sg_name (pg_name (i := 6) nd rfl (Or.inl rfl))) (sgs_cons (sg_name (pg_name (i := 7) nd rfl (Or.inl rfl))) sgs_nil)))) sgs_nil)))) (ss_cons (ss_asg (se_var (pv 0)) (sg_tup rfl (sgs_cons (sg_name (pg_name (i := 8) nd rfl (Or.inl rfl))) (sgs_cons (sg_name (pg_name (i := 9) nd rfl (Or.inl rfl))) (sgs_cons (sg_name (pg_name (i := 10) nd rfl (Or.inl rfl))) (sgs_cons (sg_name (pg_name (i := 11) nd rfl (Or.inl rfl))) sgs_nil)))))) (ss_cons (ss_set (i := 4) nd rfl (Or.inl rfl) (se_if (st_gt (se_ix (se_var (pv 4)) se_int) se_int) (se_var (pv 4)) (se_var (pv 7)))) (ss_cons (ss_set (i := 12) nd rfl (Or.inl rfl) (se_call h__law_add hr (by decide) rfl (sa_cons (se_call h__law_add hr (by decide) rfl (sa_cons (se_call h__law_mul hr (by decide) rfl (sa_cons (se_var (pv 9)) (sa_cons (se_var (pv 2)) sa_nil))) (sa_cons (se_call h__law_mul hr (by decide) rfl (sa_cons (se_var (pv 10)) (sa_cons (se_var (pv 5)) sa_nil))) sa_nil))) (sa_cons (se_var (pv 11)) sa_nil)))) (ss_cons (ss_set (i := 13) nd rfl (Or.inl rfl) (se_call h__law_add hr (by decide) rfl (sa_cons (se_call h__law_mul hr (by decide) rfl (sa_cons (se_var (pv 9)) (sa_cons (se_var (pv 3)) sa_nil))) (sa_cons (se_call h__law_mul hr (by decide) rfl (sa_cons (se_var (pv 10)) (sa_cons (se_var (pv 6)) sa_nil))) sa_nil)))) (ss_cons (ss_if (st_eq hr (se_var (pv 8)) se_int) (ss_cons (ss_set (i := 12) nd rfl (Or.inl rfl) (se_call h__law_add hr (by decide) rfl (sa_cons (se_var (pv 12)) (sa_cons (se_call h__law_add hr (by decide) rfl (sa_cons (se_call h__law_add hr (by decide) rfl (sa_cons (se_call h__law_mul hr (by decide) rfl (sa_cons (se_var (pv 2)) (sa_cons (se_var (pv 2)) sa_nil))) (sa_cons (se_call h__law_mul hr (by decide) rfl (sa_cons (se_var (pv 5)) (sa_cons (se_var (pv 5)) sa_nil))) sa_nil))) (sa_cons (se_call h__law_mul hr (by decide) rfl (sa_cons (se_call h__law_add hr (by decide) rfl (sa_cons (se_call h__law_mul hr (by decide) rfl (sa_cons (se_var (pv 3)) (sa_cons (se_var (pv 3)) sa_nil))) (sa_cons (se_call h__law_mul hr (by decide) rfl (sa_cons (se_var (pv 6)) (sa_cons (se_var (pv 6)) sa_nil))) sa_nil))) (sa_cons (se_var (pv 4)) sa_nil))) sa_nil))) sa_nil)))) (ss_one (ss_set (i := 13) nd rfl (Or.inl rfl) (se_call h__law_add hr (by decide) rfl (sa_cons (se_var (pv 13)) (sa_cons (se_call h__law_mul hr (by decide) rfl (sa_cons (se_tup (sa_cons se_int (sa_cons se_int sa_nil))) (sa_cons (se_call h__law_add hr (by decide) rfl (sa_cons (se_call h__law_mul hr (by decide) rfl (sa_cons (se_var (pv 2)) (sa_cons (se_var (pv 3)) sa_nil))) (sa_cons (se_call h__law_mul hr (by decide) rfl (sa_cons (se_var (pv 5)) (sa_cons (se_var (pv 6)) sa_nil))) sa_nil))) sa_nil))) sa_nil)))))) ss_nil) (ss_one (ss_ret (se_tup (sa_cons (se_var (pv 12)) (sa_cons (se_var (pv 13)) (sa_cons (se_var (pv 4)) sa_nil))))))))))))
theorem ok__law_side {f : Addr} {fd : FuncData} (F : Fun K "_law_side" "_law_side" s__law_side f fd) (gm : mg "_law_side" = some (.ref f)) (h__law_value : Df P w K mg base "_law_value" 2 3 F__law_value) (h__law_sign : Df P w K mg base "_law_sign" 1 3 F__law_sign) : Df P w K mg base "_law_side" 2 4 F__law_side := by
  have nd : (["curve", "point"] : List Str).Nodup := by decide +kernel
  refine df_of (N := ["curve", "point"]) (ps := ["curve", "point"]) F ⟨rfl, rfl, rfl, nd, rfl, by decide +kernel, by decide +kernel⟩ rfl rfl gm (F.binds (ps := ["curve", "point"]) fun _ _ _ _ _ _ us hl => match us, hl with | [_, _], _ => rfl) fun cdv A outer s0 H E aw hr => ?_
  exact (ss_one (ss_ret (se_call h__law_sign hr (by decide) rfl (sa_cons (se_call h__law_value hr (by decide) rfl (sa_cons (se_var (pv 0)) (sa_cons (se_var (pv 1)) sa_nil))) sa_nil))))
theorem ok__law_through {f : Addr} {fd : FuncData} (F : Fun K "_law_through" "_law_through" s__law_through f fd) (gm : mg "_law_through" = some (.ref f)) (b_range : mg "range" = none) (h__law_small : Df P w K mg base "_law_small" 1 2 F__law_small) (h__law_less : Df P w K mg base "_law_less" 2 2 F__law_less) (h__law_mul : Df P w K mg base "_law_mul" 2 2 F__law_mul) (h__law_try : Df P w K mg base "_law_try" 2 6 F__law_try) (h_is_curve : Df P w K mg base "is_curve" 1 6 F_is_curve) (h__law_point : Df P w K mg base "_law_point" 2 1 F__law_point) (h__law_side : Df P w K mg base "_law_side" 2 4 F__law_side) (h__law_add : Df P w K mg base "_law_add" 2 2 F__law_add) (h__law_says : Df P w K mg base "_law_says" 2 1 F__law_says) : Df P w K mg base "_law_through" 1 7 F__law_through := by
  have nd : (["w", "points", "x", "y", "u", "v", "p", "q", "cross", "seen", "told", "curve", "is_left", "left", "k", "own"] : List Str).Nodup := by decide +kernel
  refine df_of (N := ["w", "points", "x", "y", "u", "v", "p", "q", "cross", "seen", "told", "curve", "is_left", "left", "k", "own"]) (ps := ["w"]) F ⟨rfl, rfl, rfl, nd, rfl, by decide +kernel, by decide +kernel⟩ rfl rfl gm (F.binds (ps := ["w"]) fun _ _ _ _ _ _ us hl => match us, hl with | [_], _ => rfl) fun cdv A outer s0 H E aw hr => ?_
  exact (ss_cons (ss_lc (own := [("k", 14)]) (i := 1) rfl nd (blkOk_by (own := [("k", 14)]) rfl) rfl rfl (sw_true rfl rfl rfl (by decide +kernel)) (si_c (si_rng1 rfl b_range (sa_cons se_int sa_nil))) (fun _ _ _ _ _ => (sg_name (pg_name (i := 14) nd rfl (Or.inl rfl)))) (fun _ _ _ _ _ => sts_nil) (fun _ _ _ _ _ => (se_tup (sa_cons (se_call h__law_small hr (by decide) rfl (sa_cons (se_var (pv 0)) sa_nil)) (sa_cons (se_call h__law_small hr (by decide) rfl (sa_cons (se_var (pv 0)) sa_nil)) sa_nil))))) (ss_cons (ss_asg (se_var (pv 1)) (sg_lst rfl (sgs_cons (sg_tup rfl (sgs_cons (sg_name (pg_name (i := 2) nd rfl (Or.inl rfl))) (sgs_cons (sg_name (pg_name (i := 3) nd rfl (Or.inl rfl))) sgs_nil))) (sgs_cons (sg_tup rfl (sgs_cons (sg_name (pg_name (i := 4) nd rfl (Or.inl rfl))) (sgs_cons (sg_name (pg_name (i := 5) nd rfl (Or.inl rfl))) sgs_nil))) (sgs_cons (sg_tup rfl (sgs_cons (sg_name (pg_name (i := 6) nd rfl (Or.inl rfl))) (sgs_cons (sg_name (pg_name (i := 7) nd rfl (Or.inl rfl))) sgs_nil))) sgs_nil))))) (ss_cons (ss_set (i := 8) nd rfl (Or.inl rfl) (se_call h__law_less hr (by decide) rfl (sa_cons (se_call h__law_mul hr (by decide) rfl (sa_cons (se_call h__law_less hr (by decide) rfl (sa_cons (se_var (pv 4)) (sa_cons (se_var (pv 2)) sa_nil))) (sa_cons (se_call h__law_less hr (by decide) rfl (sa_cons (se_var (pv 7)) (sa_cons (se_var (pv 3)) sa_nil))) sa_nil))) (sa_cons (se_call h__law_mul hr (by decide) rfl (sa_cons (se_call h__law_less hr (by decide) rfl (sa_cons (se_var (pv 5)) (sa_cons (se_var (pv 3)) sa_nil))) (sa_cons (se_call h__law_less hr (by decide) rfl (sa_cons (se_var (pv 6)) (sa_cons (se_var (pv 2)) sa_nil))) sa_nil))) sa_nil)))) (ss_cons (ss_set (i := 9) nd rfl (Or.inr rfl) (se_call h__law_try hr (by decide) rfl (sa_cons se_str (sa_cons (se_var (pv 1)) sa_nil)))) (ss_cons (ss_if (st_eq hr (se_ix (se_var (pv 8)) se_int) se_int) (ss_one (ss_if (st_ne hr (se_var (pv 9)) se_str) (ss_one (ss_ret se_bl)) ss_nil)) (ss_one (ss_if (st_w (sw_or (st_notB (se_call h_is_curve hr (by decide) rfl (sa_cons (se_var (pv 9)) sa_nil)) se_bl) (sw_or (st_ne hr (se_ix (se_var (pv 9)) se_int) se_int) (sw_or1 (st_ne hr (se_lc (own := [("own", 15)]) rfl nd (blkOk_by (own := [("own", 15)]) rfl) (si_c (si_list (se_var (pv 1)))) (fun _ _ _ _ _ => (sg_name (pg_name (i := 15) nd rfl (Or.inl rfl)))) (fun _ _ _ _ _ => (sts_one (st_ne hr (se_call h__law_side hr (by decide) rfl (sa_cons (se_var (pv 9)) (sa_cons (se_call h__law_point hr (by decide) rfl (sa_cons (se_ix (se_var (pv 15)) se_int) (sa_cons (se_ix (se_var (pv 15)) se_int) sa_nil))) sa_nil))) se_int))) (fun _ _ _ _ _ => se_int)) (se_lst sa_nil)))))) (ss_one (ss_ret se_bl)) ss_nil))) (ss_cons (ss_set (i := 10) nd rfl (Or.inl rfl) (se_call h__law_try hr (by decide) rfl (sa_cons se_str (sa_cons (se_var (pv 1)) sa_nil)))) (ss_cons (ss_if (st_eq hr (se_ix (se_var (pv 1)) se_int) (se_ix (se_var (pv 1)) se_int)) (ss_one (ss_ret (se_eq hr (se_var (pv 10)) se_str))) ss_nil) (ss_cons (ss_asg (se_var (pv 10)) (sg_tup rfl (sgs_cons (sg_name (pg_name (i := 11) nd rfl (Or.inr rfl))) (sgs_cons (sg_name (pg_name (i := 12) nd rfl (Or.inl rfl))) sgs_nil)))) (ss_cons (ss_set (i := 13) nd rfl (Or.inl rfl) (se_call h__law_point hr (by decide) rfl (sa_cons (se_call h__law_less hr (by decide) rfl (sa_cons (se_var (pv 2)) (sa_cons (se_call h__law_less hr (by decide) rfl (sa_cons (se_var (pv 5)) (sa_cons (se_var (pv 3)) sa_nil))) sa_nil))) (sa_cons (se_call h__law_add hr (by decide) rfl (sa_cons (se_var (pv 3)) (sa_cons (se_call h__law_less hr (by decide) rfl (sa_cons (se_var (pv 4)) (sa_cons (se_var (pv 2)) sa_nil))) sa_nil))) sa_nil)))) (ss_cons (ss_if (st_w (sw_or (st_ne hr (se_ix (se_var (pv 11)) se_int) se_int) (sw_or (st_notB (se_call h_is_curve hr (by decide) rfl (sa_cons (se_var (pv 11)) sa_nil)) se_bl) (sw_or1 (st_ne hr (se_lc (own := [("own", 15)]) rfl nd (blkOk_by (own := [("own", 15)]) rfl) (si_c (si_list (se_sl (se_var (pv 1)) so_none (so_some se_int)))) (fun _ _ _ _ _ => (sg_name (pg_name (i := 15) nd rfl (Or.inl rfl)))) (fun _ _ _ _ _ => (sts_one (st_ne hr (se_call h__law_side hr (by decide) rfl (sa_cons (se_var (pv 11)) (sa_cons (se_call h__law_point hr (by decide) rfl (sa_cons (se_ix (se_var (pv 15)) se_int) (sa_cons (se_ix (se_var (pv 15)) se_int) sa_nil))) sa_nil))) se_int))) (fun _ _ _ _ _ => se_int)) (se_lst sa_nil)))))) (ss_one (ss_ret se_bl)) ss_nil) (ss_one (ss_ret (se_call h__law_says hr (by decide) rfl (sa_cons (se_var (pv 12)) (sa_cons (se_gt (se_call h__law_side hr (by decide) rfl (sa_cons (se_var (pv 11)) (sa_cons (se_var (pv 13)) sa_nil))) se_int) sa_nil)))))))))))))))
theorem ok_sign_of_root {f : Addr} {fd : FuncData} (F : Fun K "sign_of_root" "sign_of_root" s_sign_of_root f fd) (gm : mg "sign_of_root" = some (.ref f)) (k_NOTHING : Kst K mg "NOTHING" c_NOTHING) (h_sign : Df P w K mg base "sign" 1 2 F_sign) (h_square : Df P w K mg base "square" 1 1 F_square) (h_times : Df P w K mg base "times" 2 3 F_times) (h_minus : Df P w K mg base "minus" 2 3 F_minus) : Df P w K mg base "sign_of_root" 1 4 F_sign_of_root := by
  have nd : (["one", "a", "b", "c", "first", "second", "gap"] : List Str).Nodup := by decide +kernel
  refine df_of (N := ["one", "a", "b", "c", "first", "second", "gap"]) (ps := ["one"]) F ⟨rfl, rfl, rfl, nd, rfl, by decide +kernel, by decide +kernel⟩ rfl rfl gm (F.binds (ps := ["one"]) fun _ _ _ _ _ _ us hl => match us, hl with | [_], _ => rfl) fun cdv A outer s0 H E aw hr => ?_
  exact (ss_cons (ss_asg (se_var (pv 0)) (sg_tup rfl (sgs_cons (sg_name (pg_name (i := 1) nd rfl (Or.inl rfl))) (sgs_cons (sg_name (pg_name (i := 2) nd rfl (Or.inl rfl))) (sgs_cons (sg_name (pg_name (i := 3) nd rfl (Or.inl rfl))) sgs_nil))))) (ss_cons (ss_par (ps_par (i := 4) (j := 5) rfl nd rfl rfl (by decide) rfl rfl (sa_cons (se_call h_sign hr (by decide) rfl (sa_cons (se_var (pv 1)) sa_nil)) (sa_cons (se_if (st_ne hr (se_var (pv 3)) (se_glob k_NOTHING rfl)) (se_call h_sign hr (by decide) rfl (sa_cons (se_var (pv 2)) sa_nil)) se_int) sa_nil)) (by rfl))) (ss_cons (ss_if (st_w (sw_or (st_eq hr (se_var (pv 4)) (se_var (pv 5))) (sw_or1 (st_eq hr (se_var (pv 5)) se_int)))) (ss_one (ss_ret (se_var (pv 4)))) ss_nil) (ss_cons (ss_if (st_eq hr (se_var (pv 4)) se_int) (ss_one (ss_ret (se_var (pv 5)))) ss_nil) (ss_cons (ss_set (i := 6) nd rfl (Or.inl rfl) (se_call h_sign hr (by decide) rfl (sa_cons (se_call h_minus hr (by decide) rfl (sa_cons (se_call h_square hr (by decide) rfl (sa_cons (se_var (pv 1)) sa_nil)) (sa_cons (se_call h_times hr (by decide) rfl (sa_cons (se_call h_square hr (by decide) rfl (sa_cons (se_var (pv 2)) sa_nil)) (sa_cons (se_var (pv 3)) sa_nil))) sa_nil))) sa_nil))) (ss_one (ss_ret (se_if (st_ne hr (se_var (pv 6)) se_int) (se_mul (se_var (pv 4)) (se_var (pv 6))) se_int))))))))
theorem ok_sum_of {f : Addr} {fd : FuncData} (F : Fun K "sum_of" "sum_of" s_sum_of f fd) (gm : mg "sum_of" = some (.ref f)) (k_NOTHING : Kst K mg "NOTHING" c_NOTHING) (h_added : Df P w K mg base "added" 2 3 F_added) : Df P w K mg base "sum_of" 1 4 F_sum_of := by
  have nd : (["rows", "found", "one"] : List Str).Nodup := by decide +kernel
  refine df_of (N := ["rows", "found", "one"]) (ps := ["rows"]) F ⟨rfl, rfl, rfl, nd, rfl, by decide +kernel, by decide +kernel⟩ rfl rfl gm (F.binds (ps := ["rows"]) fun _ _ _ _ _ _ us hl => match us, hl with | [_], _ => rfl) fun cdv A outer s0 H E aw hr => ?_
  exact (ss_cons (ss_set (i := 1) nd rfl (Or.inl rfl) (se_glob k_NOTHING rfl)) (ss_cons (ss_for PassesOwn.never rfl (si_list (se_var (pv 0))) (sg_name (pg_name (i := 2) nd rfl (Or.inl rfl))) (ss_one (ss_set (i := 1) nd rfl (Or.inl rfl) (se_call h_added hr (by decide) rfl (sa_cons (se_var (pv 1)) (sa_cons (se_var (pv 2)) sa_nil)))))) (ss_one (ss_ret (se_var (pv 1))))))
theorem ok_sign_of_two {f : Addr} {fd : FuncData} (F : Fun K "sign_of_two" "sign_of_two" s_sign_of_two f fd) (gm : mg "sign_of_two" = some (.ref f)) (k_NOTHING : Kst K mg "NOTHING" c_NOTHING) (h_sign_of_root : Df P w K mg base "sign_of_root" 1 4 F_sign_of_root) (h_sign : Df P w K mg base "sign" 1 2 F_sign) (h_square : Df P w K mg base "square" 1 1 F_square) (h_times : Df P w K mg base "times" 2 3 F_times) (h_sum_of : Df P w K mg base "sum_of" 1 4 F_sum_of) (h_minus : Df P w K mg base "minus" 2 3 F_minus) : Df P w K mg base "sign_of_two" 5 5 F_sign_of_two := by
  have nd : (["a", "b", "c", "d", "e", "left", "right", "inner"] : List Str).Nodup := by decide +kernel
  refine df_of (N := ["a", "b", "c", "d", "e", "left", "right", "inner"]) (ps := ["a", "b", "c", "d", "e"]) F ⟨rfl, rfl, rfl, nd, rfl, by decide +kernel, by decide +kernel⟩ rfl rfl gm (F.binds (ps := ["a", "b", "c", "d", "e"]) fun _ _ _ _ _ _ us hl => match us, hl with | [_, _, _, _, _], _ => rfl) fun cdv A outer s0 H E aw hr => ?_
  exact (ss_cons (ss_if (st_w (sw_or (st_eq hr (se_var (pv 3)) (se_glob k_NOTHING rfl)) (sw_or1 (st_eq hr (se_var (pv 4)) (se_glob k_NOTHING rfl))))) (ss_one (ss_ret (se_call h_sign_of_root hr (by decide) rfl (sa_cons (se_tup (sa_cons (se_var (pv 0)) (sa_cons (se_var (pv 1)) (sa_cons (se_var (pv 2)) sa_nil)))) sa_nil)))) ss_nil) (ss_cons (ss_set (i := 5) nd rfl (Or.inl rfl) (se_call h_sign_of_root hr (by decide) rfl (sa_cons (se_tup (sa_cons (se_var (pv 0)) (sa_cons (se_var (pv 1)) (sa_cons (se_var (pv 2)) sa_nil)))) sa_nil))) (ss_cons (ss_set (i := 6) nd rfl (Or.inl rfl) (se_call h_sign hr (by decide) rfl (sa_cons (se_var (pv 3)) sa_nil))) (ss_cons (ss_if (st_w (sw_or (st_eq hr (se_var (pv 5)) se_int) (sw_or1 (st_eq hr (se_var (pv 5)) (se_var (pv 6)))))) (ss_one (ss_ret (se_var (pv 6)))) ss_nil) (ss_cons (ss_set (i := 7) nd rfl (Or.inl rfl) (se_tup (sa_cons (se_call h_minus hr (by decide) rfl (sa_cons (se_call h_sum_of hr (by decide) rfl (sa_cons (se_lst (sa_cons (se_call h_square hr (by decide) rfl (sa_cons (se_var (pv 0)) sa_nil)) (sa_cons (se_call h_times hr (by decide) rfl (sa_cons (se_call h_square hr (by decide) rfl (sa_cons (se_var (pv 1)) sa_nil)) (sa_cons (se_var (pv 2)) sa_nil))) sa_nil))) sa_nil)) (sa_cons (se_call h_times hr (by decide) rfl (sa_cons (se_call h_square hr (by decide) rfl (sa_cons (se_var (pv 3)) sa_nil)) (sa_cons (se_var (pv 4)) sa_nil))) sa_nil))) (sa_cons (se_call h_times hr (by decide) rfl (sa_cons (se_tup (sa_cons se_int (sa_cons se_int sa_nil))) (sa_cons (se_call h_times hr (by decide) rfl (sa_cons (se_var (pv 0)) (sa_cons (se_var (pv 1)) sa_nil))) sa_nil))) (sa_cons (se_var (pv 2)) sa_nil))))) (ss_one (ss_ret (se_mul (se_var (pv 5)) (se_call h_sign_of_root hr (by decide) rfl (sa_cons (se_var (pv 7)) sa_nil))))))))))
theorem ok_compare {f : Addr} {fd : FuncData} (F : Fun K "compare" "compare" s_compare f fd) (gm : mg "compare" = some (.ref f)) (h_minus : Df P w K mg base "minus" 2 3 F_minus) (h_turned : Df P w K mg base "turned" 1 1 F_turned) (h_sign_of_two : Df P w K mg base "sign_of_two" 5 5 F_sign_of_two) : Df P w K mg base "compare" 2 6 F_compare := by
  have nd : (["one", "other", "a", "b", "c", "d", "e", "f"] : List Str).Nodup := by decide +kernel
  refine df_of (N := ["one", "other", "a", "b", "c", "d", "e", "f"]) (ps := ["one", "other"]) F ⟨rfl, rfl, rfl, nd, rfl, by decide +kernel, by decide +kernel⟩ rfl rfl gm (F.binds (ps := ["one", "other"]) fun _ _ _ _ _ _ us hl => match us, hl with | [_, _], _ => rfl) fun cdv A outer s0 H E aw hr => ?_
  exact (ss_cons (ss_asg (se_var (pv 0)) (sg_tup rfl (sgs_cons (sg_name (pg_name (i := 2) nd rfl (Or.inl rfl))) (sgs_cons (sg_name (pg_name (i := 3) nd rfl (Or.inl rfl))) (sgs_cons (sg_name (pg_name (i := 4) nd rfl (Or.inl rfl))) sgs_nil))))) (ss_cons (ss_asg (se_var (pv 1)) (sg_tup rfl (sgs_cons (sg_name (pg_name (i := 5) nd rfl (Or.inl rfl))) (sgs_cons (sg_name (pg_name (i := 6) nd rfl (Or.inl rfl))) (sgs_cons (sg_name (pg_name (i := 7) nd rfl (Or.inl rfl))) sgs_nil))))) (ss_one (ss_ret (se_call h_sign_of_two hr (by decide) rfl (sa_cons (se_call h_minus hr (by decide) rfl (sa_cons (se_var (pv 2)) (sa_cons (se_var (pv 5)) sa_nil))) (sa_cons (se_var (pv 3)) (sa_cons (se_var (pv 4)) (sa_cons (se_call h_turned hr (by decide) rfl (sa_cons (se_var (pv 6)) sa_nil)) (sa_cons (se_var (pv 7)) sa_nil))))))))))
theorem ok_compare_points {f : Addr} {fd : FuncData} (F : Fun K "compare_points" "compare_points" s_compare_points f fd) (gm : mg "compare_points" = some (.ref f)) (h_compare : Df P w K mg base "compare" 2 6 F_compare) : Df P w K mg base "compare_points" 2 7 F_compare_points := by
  have nd : (["one", "other", "found"] : List Str).Nodup := by decide +kernel
  refine df_of (N := ["one", "other", "found"]) (ps := ["one", "other"]) F ⟨rfl, rfl, rfl, nd, rfl, by decide +kernel, by decide +kernel⟩ rfl rfl gm (F.binds (ps := ["one", "other"]) fun _ _ _ _ _ _ us hl => match us, hl with | [_, _], _ => rfl) fun cdv A outer s0 H E aw hr => ?_
  exact (ss_cons (ss_set (i := 2) nd rfl (Or.inl rfl) (se_call h_compare hr (by decide) rfl (sa_cons (se_ix (se_var (pv 0)) se_int) (sa_cons (se_ix (se_var (pv 1)) se_int) sa_nil)))) (ss_one (ss_ret (se_if (st_ne hr (se_var (pv 2)) se_int) (se_var (pv 2)) (se_call h_compare hr (by decide) rfl (sa_cons (se_ix (se_var (pv 0)) se_int) (sa_cons (se_ix (se_var (pv 1)) se_int) sa_nil)))))))
theorem ok_in_order {f : Addr} {fd : FuncData} (F : Fun K "in_order" "in_order" s_in_order f fd) (gm : mg "in_order" = some (.ref f)) (b_len : mg "len" = none) (h_compare_points : Df P w K mg base "compare_points" 2 7 F_compare_points) : Df P w K mg base "in_order" 1 8 F_in_order := by
  have nd : (["points", "found", "point", "place", "own"] : List Str).Nodup := by decide +kernel
  refine df_of (N := ["points", "found", "point", "place", "own"]) (ps := ["points"]) F ⟨rfl, rfl, rfl, nd, rfl, by decide +kernel, by decide +kernel⟩ rfl rfl gm (F.binds (ps := ["points"]) fun _ _ _ _ _ _ us hl => match us, hl with | [_], _ => rfl) fun cdv A outer s0 H E aw hr => ?_
  exact (ss_cons (ss_own (i := 1) (fun _ he => ps_set (i := 1) nd rfl (Or.inl rfl) he) sa_nil) (ss_cons (ss_for PassesOwn.never rfl (si_list (se_var (pv 0))) (sg_name (pg_name (i := 2) nd rfl (Or.inr rfl))) (ss_cons (ss_set (i := 3) nd rfl (Or.inl rfl) (se_len rfl b_len (sa_cons (se_lc (own := [("own", 4)]) rfl nd (blkOk_by (own := [("own", 4)]) rfl) (si_own (pv 1)) (fun _ _ _ _ _ => (sg_name (pg_name (i := 4) nd rfl (Or.inl rfl)))) (fun _ _ _ _ _ => (sts_one (st_lt (se_call h_compare_points hr (by decide) rfl (sa_cons (se_var (pv 4)) (sa_cons (se_var (pv 2)) sa_nil))) se_int))) (fun _ _ _ _ _ => (se_var (pv 4)))) sa_nil))) (ss_one (ss_if (st_w (sw_or (st_eq hr (se_var (pv 3)) (se_lenO rfl b_len (pv 1))) (sw_or1 (st_ne hr (se_call h_compare_points hr (by decide) rfl (sa_cons (se_ixO (pv 1) (se_var (pv 3))) (sa_cons (se_var (pv 2)) sa_nil))) se_int)))) (ss_one (ss_ins (ps_expr (pe_bm PySem.F.plainAttrs_list PySem.F.slot_list_insert PySem.F.type_list_insert mt_insert (pv 1) (sa_cons (se_var (pv 3)) (sa_cons (se_var (pv 2)) sa_nil)))))) ss_nil)))) (ss_freeze (i := 1) (ss_one (ss_ret (se_var (pv 1)))))))
theorem ok_of_lines {f : Addr} {fd : FuncData} (F : Fun K "of_lines" "of_lines" s_of_lines f fd) (gm : mg "of_lines" = some (.ref f)) (k_NOTHING : Kst K mg "NOTHING" c_NOTHING) (h_times : Df P w K mg base "times" 2 3 F_times) (h_minus : Df P w K mg base "minus" 2 3 F_minus) (h_over : Df P w K mg base "over" 2 3 F_over) (h_plain : Df P w K mg base "plain" 1 1 F_plain) : Df P w K mg base "of_lines" 2 4 F_of_lines := by
  have nd : (["one", "other", "_", "a", "b", "c", "d", "e", "f", "low", "x"] : List Str).Nodup := by decide +kernel
  refine df_of (N := ["one", "other", "_", "a", "b", "c", "d", "e", "f", "low", "x"]) (ps := ["one", "other"]) F ⟨rfl, rfl, rfl, nd, rfl, by decide +kernel, by decide +kernel⟩ rfl rfl gm (F.binds (ps := ["one", "other"]) fun _ _ _ _ _ _ us hl => match us, hl with | [_, _], _ => rfl) fun cdv A outer s0 H E aw hr => ?_
  exact (ss_cons (ss_asg (se_var (pv 0)) (sg_tup rfl (sgs_cons (sg_name (pg_name (i := 2) nd rfl (Or.inl rfl))) (sgs_cons (sg_name (pg_name (i := 3) nd rfl (Or.inl rfl))) (sgs_cons (sg_name (pg_name (i := 4) nd rfl (Or.inl rfl))) (sgs_cons (sg_name (pg_name (i := 5) nd rfl (Or.inl rfl))) sgs_nil)))))) (ss_cons (ss_asg (se_var (pv 1)) (sg_tup rfl (sgs_cons (sg_name (pg_name (i := 2) nd rfl (Or.inl rfl))) (sgs_cons (sg_name (pg_name (i := 6) nd rfl (Or.inl rfl))) (sgs_cons (sg_name (pg_name (i := 7) nd rfl (Or.inl rfl))) (sgs_cons (sg_name (pg_name (i := 8) nd rfl (Or.inl rfl))) sgs_nil)))))) (ss_cons (ss_set (i := 9) nd rfl (Or.inl rfl) (se_call h_minus hr (by decide) rfl (sa_cons (se_call h_times hr (by decide) rfl (sa_cons (se_var (pv 3)) (sa_cons (se_var (pv 7)) sa_nil))) (sa_cons (se_call h_times hr (by decide) rfl (sa_cons (se_var (pv 4)) (sa_cons (se_var (pv 6)) sa_nil))) sa_nil)))) (ss_cons (ss_if (st_eq hr (se_var (pv 9)) (se_glob k_NOTHING rfl)) (ss_one (ss_ret (se_lst sa_nil))) ss_nil) (ss_cons (ss_set (i := 10) nd rfl (Or.inl rfl) (se_call h_over hr (by decide) rfl (sa_cons (se_call h_minus hr (by decide) rfl (sa_cons (se_call h_times hr (by decide) rfl (sa_cons (se_var (pv 4)) (sa_cons (se_var (pv 8)) sa_nil))) (sa_cons (se_call h_times hr (by decide) rfl (sa_cons (se_var (pv 5)) (sa_cons (se_var (pv 7)) sa_nil))) sa_nil))) (sa_cons (se_var (pv 9)) sa_nil)))) (ss_one (ss_ret (se_lst (sa_cons (se_tup (sa_cons (se_call h_plain hr (by decide) rfl (sa_cons (se_var (pv 10)) sa_nil)) (sa_cons (se_call h_plain hr (by decide) rfl (sa_cons (se_call h_over hr (by decide) rfl (sa_cons (se_call h_minus hr (by decide) rfl (sa_cons (se_call h_times hr (by decide) rfl (sa_cons (se_var (pv 5)) (sa_cons (se_var (pv 6)) sa_nil))) (sa_cons (se_call h_times hr (by decide) rfl (sa_cons (se_var (pv 3)) (sa_cons (se_var (pv 8)) sa_nil))) sa_nil))) (sa_cons (se_var (pv 9)) sa_nil))) sa_nil)) sa_nil))) sa_nil)))))))))
theorem ok_is_upright {f : Addr} {fd : FuncData} (F : Fun K "is_upright" "is_upright" s_is_upright f fd) (gm : mg "is_upright" = some (.ref f)) (k_NOTHING : Kst K mg "NOTHING" c_NOTHING) : Df P w K mg base "is_upright" 1 1 F_is_upright := by
  have nd : (["curve"] : List Str).Nodup := by decide +kernel
  refine df_of (N := ["curve"]) (ps := ["curve"]) F ⟨rfl, rfl, rfl, nd, rfl, by decide +kernel, by decide +kernel⟩ rfl rfl gm (F.binds (ps := ["curve"]) fun _ _ _ _ _ _ us hl => match us, hl with | [_], _ => rfl) fun cdv A outer s0 H E aw hr => ?_
  exact (ss_one (ss_ret (se_and (se_eq hr (se_ix (se_var (pv 0)) se_int) se_int) (se_one (se_eq hr (se_ix (se_var (pv 0)) se_int) (se_glob k_NOTHING rfl))))))
theorem ok_both_roots {f : Addr} {fd : FuncData} (F : Fun K "both_roots" "both_roots" s_both_roots f fd) (gm : mg "both_roots" = some (.ref f)) (k_NOTHING : Kst K mg "NOTHING" c_NOTHING) (h_square : Df P w K mg base "square" 1 1 F_square) (h_times : Df P w K mg base "times" 2 3 F_times) (h_minus : Df P w K mg base "minus" 2 3 F_minus) (h_sign : Df P w K mg base "sign" 1 2 F_sign) (h_turned : Df P w K mg base "turned" 1 1 F_turned) (h_over : Df P w K mg base "over" 2 3 F_over) (h_plain : Df P w K mg base "plain" 1 1 F_plain) (h_tidy : Df P w K mg base "tidy" 3 4 F_tidy) : Df P w K mg base "both_roots" 3 5 F_both_roots := by
  have nd : (["a", "b", "c", "rest", "low", "middle", "part"] : List Str).Nodup := by decide +kernel
  refine df_of (N := ["a", "b", "c", "rest", "low", "middle", "part"]) (ps := ["a", "b", "c"]) F ⟨rfl, rfl, rfl, nd, rfl, by decide +kernel, by decide +kernel⟩ rfl rfl gm (F.binds (ps := ["a", "b", "c"]) fun _ _ _ _ _ _ us hl => match us, hl with | [_, _, _], _ => rfl) fun cdv A outer s0 H E aw hr => ?_
  exact (ss_cons (ss_set (i := 3) nd rfl (Or.inl rfl) (se_call h_minus hr (by decide) rfl (sa_cons (se_call h_square hr (by decide) rfl (sa_cons (se_var (pv 1)) sa_nil)) (sa_cons (se_call h_times hr (by decide) rfl (sa_cons (se_tup (sa_cons se_int (sa_cons se_int sa_nil))) (sa_cons (se_call h_times hr (by decide) rfl (sa_cons (se_var (pv 0)) (sa_cons (se_var (pv 2)) sa_nil))) sa_nil))) sa_nil)))) (ss_cons (ss_if (st_lt (se_call h_sign hr (by decide) rfl (sa_cons (se_var (pv 3)) sa_nil)) se_int) (ss_one (ss_ret (se_lst sa_nil))) ss_nil) (ss_cons (ss_set (i := 4) nd rfl (Or.inl rfl) (se_call h_times hr (by decide) rfl (sa_cons (se_tup (sa_cons se_int (sa_cons se_int sa_nil))) (sa_cons (se_var (pv 0)) sa_nil)))) (ss_cons (ss_par (ps_par (i := 5) (j := 6) rfl nd rfl rfl (by decide) rfl rfl (sa_cons (se_call h_over hr (by decide) rfl (sa_cons (se_call h_turned hr (by decide) rfl (sa_cons (se_var (pv 1)) sa_nil)) (sa_cons (se_var (pv 4)) sa_nil))) (sa_cons (se_call h_over hr (by decide) rfl (sa_cons (se_tup (sa_cons se_int (sa_cons se_int sa_nil))) (sa_cons (se_var (pv 4)) sa_nil))) sa_nil)) (by rfl))) (ss_cons (ss_if (st_eq hr (se_var (pv 3)) (se_glob k_NOTHING rfl)) (ss_one (ss_ret (se_lst (sa_cons (se_call h_plain hr (by decide) rfl (sa_cons (se_var (pv 5)) sa_nil)) sa_nil)))) ss_nil) (ss_cons (ss_set (i := 6) nd rfl (Or.inl rfl) (se_if (st_gt (se_call h_sign hr (by decide) rfl (sa_cons (se_var (pv 6)) sa_nil)) se_int) (se_var (pv 6)) (se_call h_turned hr (by decide) rfl (sa_cons (se_var (pv 6)) sa_nil)))) (ss_one (ss_ret (se_lst (sa_cons (se_call h_tidy hr (by decide) rfl (sa_cons (se_var (pv 5)) (sa_cons (se_call h_turned hr (by decide) rfl (sa_cons (se_var (pv 6)) sa_nil)) (sa_cons (se_var (pv 3)) sa_nil)))) (sa_cons (se_call h_tidy hr (by decide) rfl (sa_cons (se_var (pv 5)) (sa_cons (se_var (pv 6)) (sa_cons (se_var (pv 3)) sa_nil)))) sa_nil)))))))))))
theorem ok_added_root {f : Addr} {fd : FuncData} (F : Fun K "added_root" "added_root" s_added_root f fd) (gm : mg "added_root" = some (.ref f)) (k_NOTHING : Kst K mg "NOTHING" c_NOTHING) (h_added : Df P w K mg base "added" 2 3 F_added) (h_tidy : Df P w K mg base "tidy" 3 4 F_tidy) : Df P w K mg base "added_root" 2 5 F_added_root := by
  have nd : (["one", "other", "c"] : List Str).Nodup := by decide +kernel
  refine df_of (N := ["one", "other", "c"]) (ps := ["one", "other"]) F ⟨rfl, rfl, rfl, nd, rfl, by decide +kernel, by decide +kernel⟩ rfl rfl gm (F.binds (ps := ["one", "other"]) fun _ _ _ _ _ _ us hl => match us, hl with | [_, _], _ => rfl) fun cdv A outer s0 H E aw hr => ?_
  exact (ss_cons (ss_set (i := 2) nd rfl (Or.inl rfl) (se_if (st_ne hr (se_ix (se_var (pv 0)) se_int) (se_glob k_NOTHING rfl)) (se_ix (se_var (pv 0)) se_int) (se_ix (se_var (pv 1)) se_int))) (ss_one (ss_ret (se_call h_tidy hr (by decide) rfl (sa_cons (se_call h_added hr (by decide) rfl (sa_cons (se_ix (se_var (pv 0)) se_int) (sa_cons (se_ix (se_var (pv 1)) se_int) sa_nil))) (sa_cons (se_call h_added hr (by decide) rfl (sa_cons (se_ix (se_var (pv 0)) se_int) (sa_cons (se_ix (se_var (pv 1)) se_int) sa_nil))) (sa_cons (se_var (pv 2)) sa_nil)))))))
theorem ok_by_fraction {f : Addr} {fd : FuncData} (F : Fun K "by_fraction" "by_fraction" s_by_fraction f fd) (gm : mg "by_fraction" = some (.ref f)) (h_times : Df P w K mg base "times" 2 3 F_times) (h_tidy : Df P w K mg base "tidy" 3 4 F_tidy) : Df P w K mg base "by_fraction" 2 5 F_by_fraction := by
  have nd : (["one", "part"] : List Str).Nodup := by decide +kernel
  refine df_of (N := ["one", "part"]) (ps := ["one", "part"]) F ⟨rfl, rfl, rfl, nd, rfl, by decide +kernel, by decide +kernel⟩ rfl rfl gm (F.binds (ps := ["one", "part"]) fun _ _ _ _ _ _ us hl => match us, hl with | [_, _], _ => rfl) fun cdv A outer s0 H E aw hr => ?_
  exact (ss_one (ss_ret (se_call h_tidy hr (by decide) rfl (sa_cons (se_call h_times hr (by decide) rfl (sa_cons (se_ix (se_var (pv 0)) se_int) (sa_cons (se_var (pv 1)) sa_nil))) (sa_cons (se_call h_times hr (by decide) rfl (sa_cons (se_ix (se_var (pv 0)) se_int) (sa_cons (se_var (pv 1)) sa_nil))) (sa_cons (se_ix (se_var (pv 0)) se_int) sa_nil))))))
theorem ok_of_line_and_circle {f : Addr} {fd : FuncData} (F : Fun K "of_line_and_circle" "of_line_and_circle" s_of_line_and_circle f fd) (gm : mg "of_line_and_circle" = some (.ref f)) (h_is_upright : Df P w K mg base "is_upright" 1 1 F_is_upright) (h_turned : Df P w K mg base "turned" 1 1 F_turned) (h_square : Df P w K mg base "square" 1 1 F_square) (h_times : Df P w K mg base "times" 2 3 F_times) (h_sum_of : Df P w K mg base "sum_of" 1 4 F_sum_of) (h_both_roots : Df P w K mg base "both_roots" 3 5 F_both_roots) (h_plain : Df P w K mg base "plain" 1 1 F_plain) (h_over : Df P w K mg base "over" 2 3 F_over) (h_added : Df P w K mg base "added" 2 3 F_added) (h_by_fraction : Df P w K mg base "by_fraction" 2 5 F_by_fraction) (h_added_root : Df P w K mg base "added_root" 2 5 F_added_root) : Df P w K mg base "of_line_and_circle" 2 6 F_of_line_and_circle := by
  have nd : (["one", "other", "_", "a", "b", "c", "d", "e", "f", "x", "rows", "m", "n", "first", "second", "y"] : List Str).Nodup := by decide +kernel
  refine df_of (N := ["one", "other", "_", "a", "b", "c", "d", "e", "f", "x", "rows", "m", "n", "first", "second", "y"]) (ps := ["one", "other"]) F ⟨rfl, rfl, rfl, nd, rfl, by decide +kernel, by decide +kernel⟩ rfl rfl gm (F.binds (ps := ["one", "other"]) fun _ _ _ _ _ _ us hl => match us, hl with | [_, _], _ => rfl) fun cdv A outer s0 H E aw hr => ?_
  exact (ss_cons (ss_asg (se_var (pv 0)) (sg_tup rfl (sgs_cons (sg_name (pg_name (i := 2) nd rfl (Or.inl rfl))) (sgs_cons (sg_name (pg_name (i := 3) nd rfl (Or.inl rfl))) (sgs_cons (sg_name (pg_name (i := 4) nd rfl (Or.inl rfl))) (sgs_cons (sg_name (pg_name (i := 5) nd rfl (Or.inl rfl))) sgs_nil)))))) (ss_cons (ss_asg (se_var (pv 1)) (sg_tup rfl (sgs_cons (sg_name (pg_name (i := 2) nd rfl (Or.inl rfl))) (sgs_cons (sg_name (pg_name (i := 6) nd rfl (Or.inl rfl))) (sgs_cons (sg_name (pg_name (i := 7) nd rfl (Or.inl rfl))) (sgs_cons (sg_name (pg_name (i := 8) nd rfl (Or.inl rfl))) sgs_nil)))))) (ss_cons (ss_if (st_val (se_call h_is_upright hr (by decide) rfl (sa_cons (se_var (pv 0)) sa_nil))) (ss_cons (ss_set (i := 9) nd rfl (Or.inr rfl) (se_call h_turned hr (by decide) rfl (sa_cons (se_var (pv 5)) sa_nil))) (ss_cons (ss_set (i := 10) nd rfl (Or.inl rfl) (se_call h_both_roots hr (by decide) rfl (sa_cons (se_tup (sa_cons se_int (sa_cons se_int sa_nil))) (sa_cons (se_var (pv 7)) (sa_cons (se_call h_sum_of hr (by decide) rfl (sa_cons (se_lst (sa_cons (se_call h_square hr (by decide) rfl (sa_cons (se_var (pv 9)) sa_nil)) (sa_cons (se_call h_times hr (by decide) rfl (sa_cons (se_var (pv 6)) (sa_cons (se_var (pv 9)) sa_nil))) (sa_cons (se_var (pv 8)) sa_nil)))) sa_nil)) sa_nil))))) (ss_one (ss_ret (se_lc (own := [("y", 15)]) rfl nd (blkOk_by (own := [("y", 15)]) rfl) (si_c (si_list (se_var (pv 10)))) (fun _ _ _ _ _ => (sg_name (pg_name (i := 15) nd rfl (Or.inl rfl)))) (fun _ _ _ _ _ => sts_nil) (fun _ _ _ _ _ => (se_tup (sa_cons (se_call h_plain hr (by decide) rfl (sa_cons (se_var (pv 9)) sa_nil)) (sa_cons (se_var (pv 15)) sa_nil))))))))) ss_nil) (ss_cons (ss_asg (se_tup (sa_cons (se_call h_over hr (by decide) rfl (sa_cons (se_call h_turned hr (by decide) rfl (sa_cons (se_var (pv 3)) sa_nil)) (sa_cons (se_var (pv 4)) sa_nil))) (sa_cons (se_call h_over hr (by decide) rfl (sa_cons (se_call h_turned hr (by decide) rfl (sa_cons (se_var (pv 5)) sa_nil)) (sa_cons (se_var (pv 4)) sa_nil))) sa_nil))) (sg_tup rfl (sgs_cons (sg_name (pg_name (i := 11) nd rfl (Or.inr rfl))) (sgs_cons (sg_name (pg_name (i := 12) nd rfl (Or.inr rfl))) sgs_nil)))) (ss_cons (ss_set (i := 13) nd rfl (Or.inl rfl) (se_call h_added hr (by decide) rfl (sa_cons (se_tup (sa_cons se_int (sa_cons se_int sa_nil))) (sa_cons (se_call h_square hr (by decide) rfl (sa_cons (se_var (pv 11)) sa_nil)) sa_nil)))) (ss_cons (ss_set (i := 14) nd rfl (Or.inl rfl) (se_call h_sum_of hr (by decide) rfl (sa_cons (se_lst (sa_cons (se_call h_times hr (by decide) rfl (sa_cons (se_tup (sa_cons se_int (sa_cons se_int sa_nil))) (sa_cons (se_call h_times hr (by decide) rfl (sa_cons (se_var (pv 11)) (sa_cons (se_var (pv 12)) sa_nil))) sa_nil))) (sa_cons (se_var (pv 6)) (sa_cons (se_call h_times hr (by decide) rfl (sa_cons (se_var (pv 7)) (sa_cons (se_var (pv 11)) sa_nil))) sa_nil)))) sa_nil))) (ss_cons (ss_set (i := 10) nd rfl (Or.inl rfl) (se_call h_both_roots hr (by decide) rfl (sa_cons (se_var (pv 13)) (sa_cons (se_var (pv 14)) (sa_cons (se_call h_sum_of hr (by decide) rfl (sa_cons (se_lst (sa_cons (se_call h_square hr (by decide) rfl (sa_cons (se_var (pv 12)) sa_nil)) (sa_cons (se_call h_times hr (by decide) rfl (sa_cons (se_var (pv 7)) (sa_cons (se_var (pv 12)) sa_nil))) (sa_cons (se_var (pv 8)) sa_nil)))) sa_nil)) sa_nil))))) (ss_one (ss_ret (se_lc (own := [("x", 9)]) rfl nd (blkOk_by (own := [("x", 9)]) rfl) (si_c (si_list (se_var (pv 10)))) (fun _ _ _ _ _ => (sg_name (pg_name (i := 9) nd rfl (Or.inl rfl)))) (fun _ _ _ _ _ => sts_nil) (fun _ _ _ _ _ => (se_tup (sa_cons (se_var (pv 9)) (sa_cons (se_call h_added_root hr (by decide) rfl (sa_cons (se_call h_by_fraction hr (by decide) rfl (sa_cons (se_var (pv 9)) (sa_cons (se_var (pv 11)) sa_nil))) (sa_cons (se_call h_plain hr (by decide) rfl (sa_cons (se_var (pv 12)) sa_nil)) sa_nil))) sa_nil))))))))))))))
theorem ok_same_power {f : Addr} {fd : FuncData} (F : Fun K "same_power" "same_power" s_same_power f fd) (gm : mg "same_power" = some (.ref f)) (k_NOTHING : Kst K mg "NOTHING" c_NOTHING) (h_minus : Df P w K mg base "minus" 2 3 F_minus) (h_over : Df P w K mg base "over" 2 3 F_over) : Df P w K mg base "same_power" 2 4 F_same_power := by
  have nd : (["one", "other", "a", "b", "c", "first"] : List Str).Nodup := by decide +kernel
  refine df_of (N := ["one", "other", "a", "b", "c", "first"]) (ps := ["one", "other"]) F ⟨rfl, rfl, rfl, nd, rfl, by decide +kernel, by decide +kernel⟩ rfl rfl gm (F.binds (ps := ["one", "other"]) fun _ _ _ _ _ _ us hl => match us, hl with | [_, _], _ => rfl) fun cdv A outer s0 H E aw hr => ?_
  exact (ss_cons (ss_par3 (ps_par3 (i := 2) (j := 3) (l := 4) rfl nd rfl rfl rfl (by decide) (by decide) (by decide) rfl rfl rfl (sa_cons (se_call h_minus hr (by decide) rfl (sa_cons (se_ix (se_var (pv 0)) se_int) (sa_cons (se_ix (se_var (pv 1)) se_int) sa_nil))) (sa_cons (se_call h_minus hr (by decide) rfl (sa_cons (se_ix (se_var (pv 0)) se_int) (sa_cons (se_ix (se_var (pv 1)) se_int) sa_nil))) (sa_cons (se_call h_minus hr (by decide) rfl (sa_cons (se_ix (se_var (pv 0)) se_int) (sa_cons (se_ix (se_var (pv 1)) se_int) sa_nil))) sa_nil))) (by rfl))) (ss_cons (ss_set (i := 5) nd rfl (Or.inl rfl) (se_if (st_ne hr (se_var (pv 2)) (se_glob k_NOTHING rfl)) (se_var (pv 2)) (se_var (pv 3)))) (ss_cons (ss_if (st_eq hr (se_var (pv 5)) (se_glob k_NOTHING rfl)) (ss_one (ss_ret se_non)) ss_nil) (ss_one (ss_ret (se_tup (sa_cons se_int (sa_cons (se_call h_over hr (by decide) rfl (sa_cons (se_var (pv 2)) (sa_cons (se_var (pv 5)) sa_nil))) (sa_cons (se_call h_over hr (by decide) rfl (sa_cons (se_var (pv 3)) (sa_cons (se_var (pv 5)) sa_nil))) (sa_cons (se_call h_over hr (by decide) rfl (sa_cons (se_var (pv 4)) (sa_cons (se_var (pv 5)) sa_nil))) sa_nil))))))))))
theorem ok_meets {f : Addr} {fd : FuncData} (F : Fun K "meets" "meets" s_meets f fd) (gm : mg "meets" = some (.ref f)) (h_of_lines : Df P w K mg base "of_lines" 2 4 F_of_lines) (h_of_line_and_circle : Df P w K mg base "of_line_and_circle" 2 6 F_of_line_and_circle) (h_same_power : Df P w K mg base "same_power" 2 4 F_same_power) (h_in_order : Df P w K mg base "in_order" 1 8 F_in_order) : Df P w K mg base "meets" 2 9 F_meets := by
  have nd : (["one", "other", "found", "power"] : List Str).Nodup := by decide +kernel
  refine df_of (N := ["one", "other", "found", "power"]) (ps := ["one", "other"]) F ⟨rfl, rfl, rfl, nd, rfl, by decide +kernel, by decide +kernel⟩ rfl rfl gm (F.binds (ps := ["one", "other"]) fun _ _ _ _ _ _ us hl => match us, hl with | [_, _], _ => rfl) fun cdv A outer s0 H E aw hr => ?_
  exact (ss_cons (ss_if (st_w (sw_and (st_eq hr (se_ix (se_var (pv 0)) se_int) se_int) (sw_and1 (st_eq hr (se_ix (se_var (pv 1)) se_int) se_int)))) (ss_one (ss_set (i := 2) nd rfl (Or.inl rfl) (se_call h_of_lines hr (by decide) rfl (sa_cons (se_var (pv 0)) (sa_cons (se_var (pv 1)) sa_nil))))) (ss_one (ss_if (st_eq hr (se_ix (se_var (pv 0)) se_int) se_int) (ss_one (ss_set (i := 2) nd rfl (Or.inl rfl) (se_call h_of_line_and_circle hr (by decide) rfl (sa_cons (se_var (pv 0)) (sa_cons (se_var (pv 1)) sa_nil))))) (ss_one (ss_if (st_eq hr (se_ix (se_var (pv 1)) se_int) se_int) (ss_one (ss_set (i := 2) nd rfl (Or.inl rfl) (se_call h_of_line_and_circle hr (by decide) rfl (sa_cons (se_var (pv 1)) (sa_cons (se_var (pv 0)) sa_nil))))) (ss_cons (ss_set (i := 3) nd rfl (Or.inl rfl) (se_call h_same_power hr (by decide) rfl (sa_cons (se_var (pv 0)) (sa_cons (se_var (pv 1)) sa_nil)))) (ss_one (ss_set (i := 2) nd rfl (Or.inl rfl) (se_if (st_notN (se_var (pv 3)) se_non) (se_call h_of_line_and_circle hr (by decide) rfl (sa_cons (se_var (pv 3)) (sa_cons (se_var (pv 0)) sa_nil))) (se_lst sa_nil)))))))))) (ss_one (ss_ret (se_call h_in_order hr (by decide) rfl (sa_cons (se_var (pv 2)) sa_nil)))))
theorem ok__law_apart {f : Addr} {fd : FuncData} (F : Fun K "_law_apart" "_law_apart" s__law_apart f fd) (gm : mg "_law_apart" = some (.ref f)) (h__law_less : Df P w K mg base "_law_less" 2 2 F__law_less) (h__law_mul : Df P w K mg base "_law_mul" 2 2 F__law_mul) (h__law_add : Df P w K mg base "_law_add" 2 2 F__law_add) : Df P w K mg base "_law_apart" 2 3 F__law_apart := by
  have nd : (["one", "other", "x", "y"] : List Str).Nodup := by decide +kernel
  refine df_of (N := ["one", "other", "x", "y"]) (ps := ["one", "other"]) F ⟨rfl, rfl, rfl, nd, rfl, by decide +kernel, by decide +kernel⟩ rfl rfl gm (F.binds (ps := ["one", "other"]) fun _ _ _ _ _ _ us hl => match us, hl with | [_, _], _ => rfl) fun cdv A outer s0 H E aw hr => ?_
  exact (ss_cons (ss_par (ps_par (i := 2) (j := 3) rfl nd rfl rfl (by decide) rfl rfl (sa_cons (se_call h__law_less hr (by decide) rfl (sa_cons (se_ix (se_var (pv 0)) se_int) (sa_cons (se_ix (se_var (pv 1)) se_int) sa_nil))) (sa_cons (se_call h__law_less hr (by decide) rfl (sa_cons (se_ix (se_var (pv 0)) se_int) (sa_cons (se_ix (se_var (pv 1)) se_int) sa_nil))) sa_nil)) (by rfl))) (ss_one (ss_ret (se_call h__law_add hr (by decide) rfl (sa_cons (se_call h__law_mul hr (by decide) rfl (sa_cons (se_var (pv 2)) (sa_cons (se_var (pv 2)) sa_nil))) (sa_cons (se_call h__law_mul hr (by decide) rfl (sa_cons (se_var (pv 3)) (sa_cons (se_var (pv 3)) sa_nil))) sa_nil))))))
theorem ok__law_radius {f : Addr} {fd : FuncData} (F : Fun K "_law_radius" "_law_radius" s__law_radius f fd) (gm : mg "_law_radius" = some (.ref f)) (h__law_middle : Df P w K mg base "_law_middle" 1 3 F__law_middle) (h__law_mul : Df P w K mg base "_law_mul" 2 2 F__law_mul) (h__law_add : Df P w K mg base "_law_add" 2 2 F__law_add) (h__law_less : Df P w K mg base "_law_less" 2 2 F__law_less) : Df P w K mg base "_law_radius" 1 4 F__law_radius := by
  have nd : (["curve", "x", "y"] : List Str).Nodup := by decide +kernel
  refine df_of (N := ["curve", "x", "y"]) (ps := ["curve"]) F ⟨rfl, rfl, rfl, nd, rfl, by decide +kernel, by decide +kernel⟩ rfl rfl gm (F.binds (ps := ["curve"]) fun _ _ _ _ _ _ us hl => match us, hl with | [_], _ => rfl) fun cdv A outer s0 H E aw hr => ?_
  exact (ss_cons (ss_asg (se_call h__law_middle hr (by decide) rfl (sa_cons (se_var (pv 0)) sa_nil)) (sg_tup rfl (sgs_cons (sg_name (pg_name (i := 1) nd rfl (Or.inl rfl))) (sgs_cons (sg_name (pg_name (i := 2) nd rfl (Or.inl rfl))) sgs_nil)))) (ss_one (ss_ret (se_call h__law_less hr (by decide) rfl (sa_cons (se_call h__law_add hr (by decide) rfl (sa_cons (se_call h__law_mul hr (by decide) rfl (sa_cons (se_var (pv 1)) (sa_cons (se_var (pv 1)) sa_nil))) (sa_cons (se_call h__law_mul hr (by decide) rfl (sa_cons (se_var (pv 2)) (sa_cons (se_var (pv 2)) sa_nil))) sa_nil))) (sa_cons (se_ix (se_var (pv 0)) se_int) sa_nil))))))
theorem ok__law_many {f : Addr} {fd : FuncData} (F : Fun K "_law_many" "_law_many" s__law_many f fd) (gm : mg "_law_many" = some (.ref f)) (h__law_mul : Df P w K mg base "_law_mul" 2 2 F__law_mul) (h__law_less : Df P w K mg base "_law_less" 2 2 F__law_less) (h__law_middle : Df P w K mg base "_law_middle" 1 3 F__law_middle) (h__law_apart : Df P w K mg base "_law_apart" 2 3 F__law_apart) (h__law_radius : Df P w K mg base "_law_radius" 1 4 F__law_radius) (h__law_add : Df P w K mg base "_law_add" 2 2 F__law_add) (h__law_sgn : Df P w K mg base "_law_sgn" 1 1 F__law_sgn) (h__law_point : Df P w K mg base "_law_point" 2 1 F__law_point) (h__law_value : Df P w K mg base "_law_value" 2 3 F__law_value) : Df P w K mg base "_law_many" 2 5 F__law_many := by
  have nd : (["one", "other", "cross", "gap", "a", "b", "rest", "side", "flat", "round_one", "value", "size"] : List Str).Nodup := by decide +kernel
  refine df_of (N := ["one", "other", "cross", "gap", "a", "b", "rest", "side", "flat", "round_one", "value", "size"]) (ps := ["one", "other"]) F ⟨rfl, rfl, rfl, nd, rfl, by decide +kernel, by decide +kernel⟩ rfl rfl gm (F.binds (ps := ["one", "other"]) fun _ _ _ _ _ _ us hl => match us, hl with | [_, _], _ => rfl) fun cdv A outer s0 H E aw hr => ?_
  exact (ss_cons (ss_if (st_w (sw_and (st_eq hr (se_ix (se_var (pv 0)) se_int) se_int) (sw_and1 (st_eq hr (se_ix (se_var (pv 1)) se_int) se_int)))) (ss_cons (ss_set (i := 2) nd rfl (Or.inl rfl) (se_call h__law_less hr (by decide) rfl (sa_cons (se_call h__law_mul hr (by decide) rfl (sa_cons (se_ix (se_var (pv 0)) se_int) (sa_cons (se_ix (se_var (pv 1)) se_int) sa_nil))) (sa_cons (se_call h__law_mul hr (by decide) rfl (sa_cons (se_ix (se_var (pv 0)) se_int) (sa_cons (se_ix (se_var (pv 1)) se_int) sa_nil))) sa_nil)))) (ss_one (ss_ret (se_if (st_ne hr (se_ix (se_var (pv 2)) se_int) se_int) se_int se_int)))) ss_nil) (ss_cons (ss_if (st_w (sw_and (st_eq hr (se_ix (se_var (pv 0)) se_int) se_int) (sw_and1 (st_eq hr (se_ix (se_var (pv 1)) se_int) se_int)))) (ss_cons (ss_par3 (ps_par3 (i := 3) (j := 4) (l := 5) rfl nd rfl rfl rfl (by decide) (by decide) (by decide) rfl rfl rfl (sa_cons (se_call h__law_apart hr (by decide) rfl (sa_cons (se_call h__law_middle hr (by decide) rfl (sa_cons (se_var (pv 0)) sa_nil)) (sa_cons (se_call h__law_middle hr (by decide) rfl (sa_cons (se_var (pv 1)) sa_nil)) sa_nil))) (sa_cons (se_call h__law_radius hr (by decide) rfl (sa_cons (se_var (pv 0)) sa_nil)) (sa_cons (se_call h__law_radius hr (by decide) rfl (sa_cons (se_var (pv 1)) sa_nil)) sa_nil))) (by rfl))) (ss_cons (ss_set (i := 6) nd rfl (Or.inl rfl) (se_call h__law_less hr (by decide) rfl (sa_cons (se_var (pv 3)) (sa_cons (se_call h__law_add hr (by decide) rfl (sa_cons (se_var (pv 4)) (sa_cons (se_var (pv 5)) sa_nil))) sa_nil)))) (ss_cons (ss_set (i := 7) nd rfl (Or.inl rfl) (se_call h__law_sgn hr (by decide) rfl (sa_cons (se_call h__law_less hr (by decide) rfl (sa_cons (se_call h__law_mul hr (by decide) rfl (sa_cons (se_var (pv 6)) (sa_cons (se_var (pv 6)) sa_nil))) (sa_cons (se_call h__law_mul hr (by decide) rfl (sa_cons (se_tup (sa_cons se_int (sa_cons se_int sa_nil))) (sa_cons (se_call h__law_mul hr (by decide) rfl (sa_cons (se_var (pv 4)) (sa_cons (se_var (pv 5)) sa_nil))) sa_nil))) sa_nil))) sa_nil))) (ss_one (ss_ret (se_if (st_lt (se_var (pv 7)) se_int) se_int (se_if (st_eq hr (se_var (pv 7)) se_int) se_int se_int))))))) ss_nil) (ss_cons (ss_asg (se_if (st_eq hr (se_ix (se_var (pv 0)) se_int) se_int) (se_tup (sa_cons (se_var (pv 0)) (sa_cons (se_var (pv 1)) sa_nil))) (se_tup (sa_cons (se_var (pv 1)) (sa_cons (se_var (pv 0)) sa_nil)))) (sg_tup rfl (sgs_cons (sg_name (pg_name (i := 8) nd rfl (Or.inl rfl))) (sgs_cons (sg_name (pg_name (i := 9) nd rfl (Or.inl rfl))) sgs_nil)))) (ss_cons (ss_set (i := 10) nd rfl (Or.inl rfl) (se_ix (se_call h__law_value hr (by decide) rfl (sa_cons (se_var (pv 8)) (sa_cons (se_call h__law_point hr (by decide) rfl (sa_cons (se_ix (se_call h__law_middle hr (by decide) rfl (sa_cons (se_var (pv 9)) sa_nil)) se_int) (sa_cons (se_ix (se_call h__law_middle hr (by decide) rfl (sa_cons (se_var (pv 9)) sa_nil)) se_int) sa_nil))) sa_nil))) se_int)) (ss_cons (ss_set (i := 11) nd rfl (Or.inl rfl) (se_call h__law_add hr (by decide) rfl (sa_cons (se_call h__law_mul hr (by decide) rfl (sa_cons (se_ix (se_var (pv 8)) se_int) (sa_cons (se_ix (se_var (pv 8)) se_int) sa_nil))) (sa_cons (se_call h__law_mul hr (by decide) rfl (sa_cons (se_ix (se_var (pv 8)) se_int) (sa_cons (se_ix (se_var (pv 8)) se_int) sa_nil))) sa_nil)))) (ss_one (ss_ret (se_add se_int (se_call h__law_sgn hr (by decide) rfl (sa_cons (se_call h__law_less hr (by decide) rfl (sa_cons (se_call h__law_mul hr (by decide) rfl (sa_cons (se_call h__law_radius hr (by decide) rfl (sa_cons (se_var (pv 9)) sa_nil)) (sa_cons (se_var (pv 11)) sa_nil))) (sa_cons (se_call h__law_mul hr (by decide) rfl (sa_cons (se_var (pv 10)) (sa_cons (se_var (pv 10)) sa_nil))) sa_nil))) sa_nil))))))))))
theorem ok_touch_kind {f : Addr} {fd : FuncData} (F : Fun K "touch_kind" "touch_kind" s_touch_kind f fd) (gm : mg "touch_kind" = some (.ref f)) (h_middle_of : Df P w K mg base "middle_of" 1 4 F_middle_of) (h_minus : Df P w K mg base "minus" 2 3 F_minus) (h_square : Df P w K mg base "square" 1 1 F_square) (h_added : Df P w K mg base "added" 2 3 F_added) (h_radius_of : Df P w K mg base "radius_of" 1 5 F_radius_of) (h_times : Df P w K mg base "times" 2 3 F_times) (h_sign : Df P w K mg base "sign" 1 2 F_sign) : Df P w K mg base "touch_kind" 2 6 F_touch_kind := by
  have nd : (["one", "other", "x", "y", "u", "v", "gap", "first", "second", "rest", "over_all"] : List Str).Nodup := by decide +kernel
  refine df_of (N := ["one", "other", "x", "y", "u", "v", "gap", "first", "second", "rest", "over_all"]) (ps := ["one", "other"]) F ⟨rfl, rfl, rfl, nd, rfl, by decide +kernel, by decide +kernel⟩ rfl rfl gm (F.binds (ps := ["one", "other"]) fun _ _ _ _ _ _ us hl => match us, hl with | [_, _], _ => rfl) fun cdv A outer s0 H E aw hr => ?_
  exact (ss_cons (ss_if (st_eq hr (se_var (pv 0)) (se_var (pv 1))) (ss_one (ss_ret se_str)) ss_nil) (ss_cons (ss_asg (se_tup (sa_cons (se_call h_middle_of hr (by decide) rfl (sa_cons (se_var (pv 0)) sa_nil)) (sa_cons (se_call h_middle_of hr (by decide) rfl (sa_cons (se_var (pv 1)) sa_nil)) sa_nil))) (sg_tup rfl (sgs_cons (sg_tup rfl (sgs_cons (sg_name (pg_name (i := 2) nd rfl (Or.inl rfl))) (sgs_cons (sg_name (pg_name (i := 3) nd rfl (Or.inl rfl))) sgs_nil))) (sgs_cons (sg_tup rfl (sgs_cons (sg_name (pg_name (i := 4) nd rfl (Or.inl rfl))) (sgs_cons (sg_name (pg_name (i := 5) nd rfl (Or.inl rfl))) sgs_nil))) sgs_nil)))) (ss_cons (ss_set (i := 6) nd rfl (Or.inl rfl) (se_call h_added hr (by decide) rfl (sa_cons (se_call h_square hr (by decide) rfl (sa_cons (se_call h_minus hr (by decide) rfl (sa_cons (se_var (pv 2)) (sa_cons (se_var (pv 4)) sa_nil))) sa_nil)) (sa_cons (se_call h_square hr (by decide) rfl (sa_cons (se_call h_minus hr (by decide) rfl (sa_cons (se_var (pv 3)) (sa_cons (se_var (pv 5)) sa_nil))) sa_nil)) sa_nil)))) (ss_cons (ss_par (ps_par (i := 7) (j := 8) rfl nd rfl rfl (by decide) rfl rfl (sa_cons (se_call h_radius_of hr (by decide) rfl (sa_cons (se_var (pv 0)) sa_nil)) (sa_cons (se_call h_radius_of hr (by decide) rfl (sa_cons (se_var (pv 1)) sa_nil)) sa_nil)) (by rfl))) (ss_cons (ss_set (i := 9) nd rfl (Or.inl rfl) (se_call h_minus hr (by decide) rfl (sa_cons (se_var (pv 6)) (sa_cons (se_call h_added hr (by decide) rfl (sa_cons (se_var (pv 7)) (sa_cons (se_var (pv 8)) sa_nil))) sa_nil)))) (ss_cons (ss_set (i := 10) nd rfl (Or.inl rfl) (se_call h_sign hr (by decide) rfl (sa_cons (se_call h_minus hr (by decide) rfl (sa_cons (se_call h_square hr (by decide) rfl (sa_cons (se_var (pv 9)) sa_nil)) (sa_cons (se_call h_times hr (by decide) rfl (sa_cons (se_tup (sa_cons se_int (sa_cons se_int sa_nil))) (sa_cons (se_call h_times hr (by decide) rfl (sa_cons (se_var (pv 7)) (sa_cons (se_var (pv 8)) sa_nil))) sa_nil))) sa_nil))) sa_nil))) (ss_cons (ss_if (st_lt (se_var (pv 10)) se_int) (ss_one (ss_ret se_str)) ss_nil) (ss_cons (ss_if (st_gt (se_call h_sign hr (by decide) rfl (sa_cons (se_var (pv 9)) sa_nil)) se_int) (ss_one (ss_ret (se_if (st_eq hr (se_var (pv 10)) se_int) se_str se_str))) ss_nil) (ss_cons (ss_if (st_eq hr (se_var (pv 10)) se_int) (ss_one (ss_ret se_str)) ss_nil) (ss_one (ss_ret (se_if (st_lt (se_call h_sign hr (by decide) rfl (sa_cons (se_call h_minus hr (by decide) rfl (sa_cons (se_var (pv 7)) (sa_cons (se_var (pv 8)) sa_nil))) sa_nil)) se_int) se_str se_str))))))))))))
theorem ok__law_kind {f : Addr} {fd : FuncData} (F : Fun K "_law_kind" "_law_kind" s__law_kind f fd) (gm : mg "_law_kind" = some (.ref f)) (h__law_middle : Df P w K mg base "_law_middle" 1 3 F__law_middle) (h__law_apart : Df P w K mg base "_law_apart" 2 3 F__law_apart) (h__law_radius : Df P w K mg base "_law_radius" 1 4 F__law_radius) (h__law_many : Df P w K mg base "_law_many" 2 5 F__law_many) (h__law_add : Df P w K mg base "_law_add" 2 2 F__law_add) (h__law_less : Df P w K mg base "_law_less" 2 2 F__law_less) (h__law_sgn : Df P w K mg base "_law_sgn" 1 1 F__law_sgn) : Df P w K mg base "_law_kind" 2 6 F__law_kind := by
  have nd : (["one", "other", "gap", "a", "b", "many", "rest"] : List Str).Nodup := by decide +kernel
  refine df_of (N := ["one", "other", "gap", "a", "b", "many", "rest"]) (ps := ["one", "other"]) F ⟨rfl, rfl, rfl, nd, rfl, by decide +kernel, by decide +kernel⟩ rfl rfl gm (F.binds (ps := ["one", "other"]) fun _ _ _ _ _ _ us hl => match us, hl with | [_, _], _ => rfl) fun cdv A outer s0 H E aw hr => ?_
  exact (ss_cons (ss_par3 (ps_par3 (i := 2) (j := 3) (l := 4) rfl nd rfl rfl rfl (by decide) (by decide) (by decide) rfl rfl rfl (sa_cons (se_call h__law_apart hr (by decide) rfl (sa_cons (se_call h__law_middle hr (by decide) rfl (sa_cons (se_var (pv 0)) sa_nil)) (sa_cons (se_call h__law_middle hr (by decide) rfl (sa_cons (se_var (pv 1)) sa_nil)) sa_nil))) (sa_cons (se_call h__law_radius hr (by decide) rfl (sa_cons (se_var (pv 0)) sa_nil)) (sa_cons (se_call h__law_radius hr (by decide) rfl (sa_cons (se_var (pv 1)) sa_nil)) sa_nil))) (by rfl))) (ss_cons (ss_par (ps_par (i := 5) (j := 6) rfl nd rfl rfl (by decide) rfl rfl (sa_cons (se_call h__law_many hr (by decide) rfl (sa_cons (se_var (pv 0)) (sa_cons (se_var (pv 1)) sa_nil))) (sa_cons (se_call h__law_sgn hr (by decide) rfl (sa_cons (se_call h__law_less hr (by decide) rfl (sa_cons (se_var (pv 2)) (sa_cons (se_call h__law_add hr (by decide) rfl (sa_cons (se_var (pv 3)) (sa_cons (se_var (pv 4)) sa_nil))) sa_nil))) sa_nil)) sa_nil)) (by rfl))) (ss_cons (ss_if (st_eq hr (se_var (pv 5)) se_int) (ss_one (ss_ret se_str)) ss_nil) (ss_cons (ss_if (st_eq hr (se_var (pv 5)) se_int) (ss_one (ss_ret (se_if (st_gt (se_var (pv 6)) se_int) se_str se_str))) ss_nil) (ss_cons (ss_if (st_gt (se_var (pv 6)) se_int) (ss_one (ss_ret se_str)) ss_nil) (ss_one (ss_ret (se_if (st_lt (se_call h__law_sgn hr (by decide) rfl (sa_cons (se_call h__law_less hr (by decide) rfl (sa_cons (se_var (pv 3)) (sa_cons (se_var (pv 4)) sa_nil))) sa_nil)) se_int) se_str se_str))))))))
theorem ok_times_root {f : Addr} {fd : FuncData} (F : Fun K "times_root" "times_root" s_times_root f fd) (gm : mg "times_root" = some (.ref f)) (k_NOTHING : Kst K mg "NOTHING" c_NOTHING) (h_times : Df P w K mg base "times" 2 3 F_times) (h_added : Df P w K mg base "added" 2 3 F_added) (h_tidy : Df P w K mg base "tidy" 3 4 F_tidy) : Df P w K mg base "times_root" 2 5 F_times_root := by
  have nd : (["one", "other", "c", "a"] : List Str).Nodup := by decide +kernel
  refine df_of (N := ["one", "other", "c", "a"]) (ps := ["one", "other"]) F ⟨rfl, rfl, rfl, nd, rfl, by decide +kernel, by decide +kernel⟩ rfl rfl gm (F.binds (ps := ["one", "other"]) fun _ _ _ _ _ _ us hl => match us, hl with | [_, _], _ => rfl) fun cdv A outer s0 H E aw hr => ?_
  exact (ss_cons (ss_set (i := 2) nd rfl (Or.inl rfl) (se_if (st_ne hr (se_ix (se_var (pv 0)) se_int) (se_glob k_NOTHING rfl)) (se_ix (se_var (pv 0)) se_int) (se_ix (se_var (pv 1)) se_int))) (ss_cons (ss_set (i := 3) nd rfl (Or.inl rfl) (se_call h_added hr (by decide) rfl (sa_cons (se_call h_times hr (by decide) rfl (sa_cons (se_ix (se_var (pv 0)) se_int) (sa_cons (se_ix (se_var (pv 1)) se_int) sa_nil))) (sa_cons (se_call h_times hr (by decide) rfl (sa_cons (se_call h_times hr (by decide) rfl (sa_cons (se_ix (se_var (pv 0)) se_int) (sa_cons (se_ix (se_var (pv 1)) se_int) sa_nil))) (sa_cons (se_var (pv 2)) sa_nil))) sa_nil)))) (ss_one (ss_ret (se_call h_tidy hr (by decide) rfl (sa_cons (se_var (pv 3)) (sa_cons (se_call h_added hr (by decide) rfl (sa_cons (se_call h_times hr (by decide) rfl (sa_cons (se_ix (se_var (pv 0)) se_int) (sa_cons (se_ix (se_var (pv 1)) se_int) sa_nil))) (sa_cons (se_call h_times hr (by decide) rfl (sa_cons (se_ix (se_var (pv 0)) se_int) (sa_cons (se_ix (se_var (pv 1)) se_int) sa_nil))) sa_nil))) (sa_cons (se_var (pv 2)) sa_nil))))))))
theorem ok_value_at {f : Addr} {fd : FuncData} (F : Fun K "value_at" "value_at" s_value_at f fd) (gm : mg "value_at" = some (.ref f)) (h_by_fraction : Df P w K mg base "by_fraction" 2 5 F_by_fraction) (h_added_root : Df P w K mg base "added_root" 2 5 F_added_root) (h_plain : Df P w K mg base "plain" 1 1 F_plain) (h_times_root : Df P w K mg base "times_root" 2 5 F_times_root) : Df P w K mg base "value_at" 2 6 F_value_at := by
  have nd : (["curve", "point", "x", "y", "found"] : List Str).Nodup := by decide +kernel
  refine df_of (N := ["curve", "point", "x", "y", "found"]) (ps := ["curve", "point"]) F ⟨rfl, rfl, rfl, nd, rfl, by decide +kernel, by decide +kernel⟩ rfl rfl gm (F.binds (ps := ["curve", "point"]) fun _ _ _ _ _ _ us hl => match us, hl with | [_, _], _ => rfl) fun cdv A outer s0 H E aw hr => ?_
  exact (ss_cons (ss_asg (se_var (pv 1)) (sg_tup rfl (sgs_cons (sg_name (pg_name (i := 2) nd rfl (Or.inl rfl))) (sgs_cons (sg_name (pg_name (i := 3) nd rfl (Or.inl rfl))) sgs_nil)))) (ss_cons (ss_set (i := 4) nd rfl (Or.inl rfl) (se_call h_added_root hr (by decide) rfl (sa_cons (se_call h_by_fraction hr (by decide) rfl (sa_cons (se_var (pv 2)) (sa_cons (se_ix (se_var (pv 0)) se_int) sa_nil))) (sa_cons (se_call h_by_fraction hr (by decide) rfl (sa_cons (se_var (pv 3)) (sa_cons (se_ix (se_var (pv 0)) se_int) sa_nil))) sa_nil)))) (ss_cons (ss_set (i := 4) nd rfl (Or.inl rfl) (se_call h_added_root hr (by decide) rfl (sa_cons (se_var (pv 4)) (sa_cons (se_call h_plain hr (by decide) rfl (sa_cons (se_ix (se_var (pv 0)) se_int) sa_nil)) sa_nil)))) (ss_cons (ss_if (st_eq hr (se_ix (se_var (pv 0)) se_int) se_int) (ss_one (ss_set (i := 4) nd rfl (Or.inl rfl) (se_call h_added_root hr (by decide) rfl (sa_cons (se_var (pv 4)) (sa_cons (se_call h_added_root hr (by decide) rfl (sa_cons (se_call h_times_root hr (by decide) rfl (sa_cons (se_var (pv 2)) (sa_cons (se_var (pv 2)) sa_nil))) (sa_cons (se_call h_times_root hr (by decide) rfl (sa_cons (se_var (pv 3)) (sa_cons (se_var (pv 3)) sa_nil))) sa_nil))) sa_nil))))) ss_nil) (ss_one (ss_ret (se_var (pv 4))))))))
theorem ok_sign_at {f : Addr} {fd : FuncData} (F : Fun K "sign_at" "sign_at" s_sign_at f fd) (gm : mg "sign_at" = some (.ref f)) (h_value_at : Df P w K mg base "value_at" 2 6 F_value_at) (h_sign_of_root : Df P w K mg base "sign_of_root" 1 4 F_sign_of_root) : Df P w K mg base "sign_at" 2 7 F_sign_at := by
  have nd : (["curve", "point"] : List Str).Nodup := by decide +kernel
  refine df_of (N := ["curve", "point"]) (ps := ["curve", "point"]) F ⟨rfl, rfl, rfl, nd, rfl, by decide +kernel, by decide +kernel⟩ rfl rfl gm (F.binds (ps := ["curve", "point"]) fun _ _ _ _ _ _ us hl => match us, hl with | [_, _], _ => rfl) fun cdv A outer s0 H E aw hr => ?_
  exact (ss_one (ss_ret (se_call h_sign_of_root hr (by decide) rfl (sa_cons (se_call h_value_at hr (by decide) rfl (sa_cons (se_var (pv 0)) (sa_cons (se_var (pv 1)) sa_nil))) sa_nil))))
theorem ok__law_compare {f : Addr} {fd : FuncData} (F : Fun K "_law_compare" "_law_compare" s__law_compare f fd) (gm : mg "_law_compare" = some (.ref f)) (h__law_less : Df P w K mg base "_law_less" 2 2 F__law_less) (h__law_sign : Df P w K mg base "_law_sign" 1 3 F__law_sign) (h__law_sgn : Df P w K mg base "_law_sgn" 1 1 F__law_sgn) (h__law_mul : Df P w K mg base "_law_mul" 2 2 F__law_mul) (h__law_add : Df P w K mg base "_law_add" 2 2 F__law_add) : Df P w K mg base "_law_compare" 2 4 F__law_compare := by
  have nd : (["one", "other", "a", "b", "c", "d", "e", "f", "left", "right", "gap", "gap_square"] : List Str).Nodup := by decide +kernel
  refine df_of (N := ["one", "other", "a", "b", "c", "d", "e", "f", "left", "right", "gap", "gap_square"]) (ps := ["one", "other"]) F ⟨rfl, rfl, rfl, nd, rfl, by decide +kernel, by decide +kernel⟩ rfl rfl gm (F.binds (ps := ["one", "other"]) fun _ _ _ _ _ _ us hl => match us, hl with | [_, _], _ => rfl) fun cdv A outer s0 H E aw hr => ?_
  exact (ss_cons (ss_asg (se_tup (sa_cons (se_var (pv 0)) (sa_cons (se_var (pv 1)) sa_nil))) (sg_tup rfl (sgs_cons (sg_tup rfl (sgs_cons (sg_name (pg_name (i := 2) nd rfl (Or.inl rfl))) (sgs_cons (sg_name (pg_name (i := 3) nd rfl (Or.inl rfl))) (sgs_cons (sg_name (pg_name (i := 4) nd rfl (Or.inl rfl))) sgs_nil)))) (sgs_cons (sg_tup rfl (sgs_cons (sg_name (pg_name (i := 5) nd rfl (Or.inl rfl))) (sgs_cons (sg_name (pg_name (i := 6) nd rfl (Or.inl rfl))) (sgs_cons (sg_name (pg_name (i := 7) nd rfl (Or.inl rfl))) sgs_nil)))) sgs_nil)))) (ss_cons (ss_par (ps_par (i := 8) (j := 9) rfl nd rfl rfl (by decide) rfl rfl (sa_cons (se_call h__law_sign hr (by decide) rfl (sa_cons (se_tup (sa_cons (se_call h__law_less hr (by decide) rfl (sa_cons (se_var (pv 2)) (sa_cons (se_var (pv 5)) sa_nil))) (sa_cons (se_var (pv 3)) (sa_cons (se_var (pv 4)) sa_nil)))) sa_nil)) (sa_cons (se_if (st_gt (se_ix (se_var (pv 7)) se_int) se_int) (se_sub se_int (se_call h__law_sgn hr (by decide) rfl (sa_cons (se_var (pv 6)) sa_nil))) se_int) sa_nil)) (by rfl))) (ss_cons (ss_if (st_w (sw_or (st_eq hr (se_var (pv 9)) se_int) (sw_or1 (st_eq hr (se_var (pv 8)) (se_var (pv 9)))))) (ss_one (ss_ret (se_var (pv 8)))) ss_nil) (ss_cons (ss_if (st_eq hr (se_var (pv 8)) se_int) (ss_one (ss_ret (se_var (pv 9)))) ss_nil) (ss_cons (ss_set (i := 10) nd rfl (Or.inl rfl) (se_call h__law_less hr (by decide) rfl (sa_cons (se_var (pv 2)) (sa_cons (se_var (pv 5)) sa_nil)))) (ss_cons (ss_set (i := 11) nd rfl (Or.inl rfl) (se_call h__law_less hr (by decide) rfl (sa_cons (se_call h__law_add hr (by decide) rfl (sa_cons (se_call h__law_mul hr (by decide) rfl (sa_cons (se_var (pv 10)) (sa_cons (se_var (pv 10)) sa_nil))) (sa_cons (se_call h__law_mul hr (by decide) rfl (sa_cons (se_call h__law_mul hr (by decide) rfl (sa_cons (se_var (pv 3)) (sa_cons (se_var (pv 3)) sa_nil))) (sa_cons (se_var (pv 4)) sa_nil))) sa_nil))) (sa_cons (se_call h__law_mul hr (by decide) rfl (sa_cons (se_call h__law_mul hr (by decide) rfl (sa_cons (se_var (pv 6)) (sa_cons (se_var (pv 6)) sa_nil))) (sa_cons (se_var (pv 7)) sa_nil))) sa_nil)))) (ss_one (ss_ret (se_mul (se_var (pv 8)) (se_call h__law_sign hr (by decide) rfl (sa_cons (se_tup (sa_cons (se_var (pv 11)) (sa_cons (se_call h__law_mul hr (by decide) rfl (sa_cons (se_tup (sa_cons se_int (sa_cons se_int sa_nil))) (sa_cons (se_call h__law_mul hr (by decide) rfl (sa_cons (se_var (pv 10)) (sa_cons (se_var (pv 3)) sa_nil))) sa_nil))) (sa_cons (se_var (pv 4)) sa_nil)))) sa_nil)))))))))))
theorem ok__law_before {f : Addr} {fd : FuncData} (F : Fun K "_law_before" "_law_before" s__law_before f fd) (gm : mg "_law_before" = some (.ref f)) (h__law_compare : Df P w K mg base "_law_compare" 2 4 F__law_compare) : Df P w K mg base "_law_before" 2 5 F__law_before := by
  have nd : (["one", "other", "side"] : List Str).Nodup := by decide +kernel
  refine df_of (N := ["one", "other", "side"]) (ps := ["one", "other"]) F ⟨rfl, rfl, rfl, nd, rfl, by decide +kernel, by decide +kernel⟩ rfl rfl gm (F.binds (ps := ["one", "other"]) fun _ _ _ _ _ _ us hl => match us, hl with | [_, _], _ => rfl) fun cdv A outer s0 H E aw hr => ?_
  exact (ss_cons (ss_set (i := 2) nd rfl (Or.inl rfl) (se_call h__law_compare hr (by decide) rfl (sa_cons (se_ix (se_var (pv 0)) se_int) (sa_cons (se_ix (se_var (pv 1)) se_int) sa_nil)))) (ss_one (ss_ret (se_if (st_ne hr (se_var (pv 2)) se_int) (se_var (pv 2)) (se_call h__law_compare hr (by decide) rfl (sa_cons (se_ix (se_var (pv 0)) se_int) (sa_cons (se_ix (se_var (pv 1)) se_int) sa_nil)))))))
theorem ok_is_root {f : Addr} {fd : FuncData} (F : Fun K "is_root" "is_root" s_is_root f fd) (gm : mg "is_root" = some (.ref f)) (k_NOTHING : Kst K mg "NOTHING" c_NOTHING) (b_isinstance : mg "isinstance" = none) (b_tuple : mg "tuple" = none) (b_len : mg "len" = none) (b_all : mg "all" = none) (h_is_fraction : Df P w K mg base "is_fraction" 1 2 F_is_fraction) : Df P w K mg base "is_root" 1 3 F_is_root := by
  have nd : (["thing", "one"] : List Str).Nodup := by decide +kernel
  refine df_of (N := ["thing", "one"]) (ps := ["thing"]) F ⟨rfl, rfl, rfl, nd, rfl, by decide +kernel, by decide +kernel⟩ rfl rfl gm (F.binds (ps := ["thing"]) fun _ _ _ _ _ _ us hl => match us, hl with | [_], _ => rfl) fun cdv A outer s0 H E aw hr => ?_
  exact (ss_cons (ss_if (st_w (sw_or (st_not (st_val (se_isi boot_t_tuple (by decide) rfl b_tuple rfl b_isinstance (se_var (pv 0))))) (sw_or (st_ne hr (se_len rfl b_len (sa_cons (se_var (pv 0)) sa_nil)) se_int) (sw_or1 (st_not (st_val (se_allc rfl rfl b_all (sa_cons (se_lc (own := [("one", 1)]) rfl nd (blkOk_by (own := [("one", 1)]) rfl) (si_c (si_tup (se_var (pv 0)))) (fun _ _ _ _ _ => (sg_name (pg_name (i := 1) nd rfl (Or.inl rfl)))) (fun _ _ _ _ _ => sts_nil) (fun _ _ _ _ _ => (se_call h_is_fraction hr (by decide) rfl (sa_cons (se_var (pv 1)) sa_nil)))) sa_nil)))))))) (ss_one (ss_ret se_bl)) ss_nil) (ss_one (ss_ret (se_and (se_ge (se_ix (se_ix (se_var (pv 0)) se_int) se_int) se_int) (se_one (se_eq hr (se_ne hr (se_ix (se_var (pv 0)) se_int) (se_glob k_NOTHING rfl)) (se_ne hr (se_ix (se_var (pv 0)) se_int) (se_glob k_NOTHING rfl))))))))
theorem ok_is_point {f : Addr} {fd : FuncData} (F : Fun K "is_point" "is_point" s_is_point f fd) (gm : mg "is_point" = some (.ref f)) (b_isinstance : mg "isinstance" = none) (b_tuple : mg "tuple" = none) (b_len : mg "len" = none) (b_all : mg "all" = none) (h_is_root : Df P w K mg base "is_root" 1 3 F_is_root) : Df P w K mg base "is_point" 1 4 F_is_point := by
  have nd : (["thing", "one"] : List Str).Nodup := by decide +kernel
  refine df_of (N := ["thing", "one"]) (ps := ["thing"]) F ⟨rfl, rfl, rfl, nd, rfl, by decide +kernel, by decide +kernel⟩ rfl rfl gm (F.binds (ps := ["thing"]) fun _ _ _ _ _ _ us hl => match us, hl with | [_], _ => rfl) fun cdv A outer s0 H E aw hr => ?_
  exact (ss_cons (ss_if (st_w (sw_or (st_not (st_val (se_isi boot_t_tuple (by decide) rfl b_tuple rfl b_isinstance (se_var (pv 0))))) (sw_or (st_ne hr (se_len rfl b_len (sa_cons (se_var (pv 0)) sa_nil)) se_int) (sw_or1 (st_not (st_val (se_allc rfl rfl b_all (sa_cons (se_lc (own := [("one", 1)]) rfl nd (blkOk_by (own := [("one", 1)]) rfl) (si_c (si_tup (se_var (pv 0)))) (fun _ _ _ _ _ => (sg_name (pg_name (i := 1) nd rfl (Or.inl rfl)))) (fun _ _ _ _ _ => sts_nil) (fun _ _ _ _ _ => (se_call h_is_root hr (by decide) rfl (sa_cons (se_var (pv 1)) sa_nil)))) sa_nil)))))))) (ss_one (ss_ret se_bl)) ss_nil) (ss_one (ss_ret (se_or (se_eq hr (se_ix (se_ix (se_ix (se_var (pv 0)) se_int) se_int) se_int) se_int) (se_or (se_eq hr (se_ix (se_ix (se_ix (se_var (pv 0)) se_int) se_int) se_int) se_int) (se_one (se_eq hr (se_ix (se_ix (se_var (pv 0)) se_int) se_int) (se_ix (se_ix (se_var (pv 0)) se_int) se_int))))))))
theorem ok__law_meets {f : Addr} {fd : FuncData} (F : Fun K "_law_meets" "_law_meets" s__law_meets f fd) (gm : mg "_law_meets" = some (.ref f)) (b_isinstance : mg "isinstance" = none) (b_list : mg "list" = none) (b_len : mg "len" = none) (h_meets : Df P w K mg base "meets" 2 9 F_meets) (h__law_many : Df P w K mg base "_law_many" 2 5 F__law_many) (h_is_point : Df P w K mg base "is_point" 1 4 F_is_point) (h__law_side : Df P w K mg base "_law_side" 2 4 F__law_side) (h__law_before : Df P w K mg base "_law_before" 2 5 F__law_before) (h_compare_points : Df P w K mg base "compare_points" 2 7 F_compare_points) (h_touch_kind : Df P w K mg base "touch_kind" 2 6 F_touch_kind) (h__law_kind : Df P w K mg base "_law_kind" 2 6 F__law_kind) (h__law_curve : Df P w K mg base "_law_curve" 1 4 F__law_curve) (h_sign_at : Df P w K mg base "sign_at" 2 7 F_sign_at) : Df P w K mg base "_law_meets" 3 10 F__law_meets := by
  have nd : (["w", "one", "other", "found", "point", "third"] : List Str).Nodup := by decide +kernel
  refine df_of (N := ["w", "one", "other", "found", "point", "third"]) (ps := ["w", "one", "other"]) F ⟨rfl, rfl, rfl, nd, rfl, by decide +kernel, by decide +kernel⟩ rfl rfl gm (F.binds (ps := ["w", "one", "other"]) fun _ _ _ _ _ _ us hl => match us, hl with | [_, _, _], _ => rfl) fun cdv A outer s0 H E aw hr => ?_
  exact (ss_cons (ss_set (i := 3) nd rfl (Or.inl rfl) (se_call h_meets hr (by decide) rfl (sa_cons (se_var (pv 1)) (sa_cons (se_var (pv 2)) sa_nil)))) (ss_cons (ss_if (st_w (sw_or (st_not (st_val (se_isi boot_t_list (by decide) rfl b_list rfl b_isinstance (se_var (pv 3))))) (sw_or1 (st_ne hr (se_len rfl b_len (sa_cons (se_var (pv 3)) sa_nil)) (se_call h__law_many hr (by decide) rfl (sa_cons (se_var (pv 1)) (sa_cons (se_var (pv 2)) sa_nil))))))) (ss_one (ss_ret se_bl)) ss_nil) (ss_cons (ss_if (st_ne hr (se_lc (own := [("point", 4)]) rfl nd (blkOk_by (own := [("point", 4)]) rfl) (si_c (si_list (se_var (pv 3)))) (fun _ _ _ _ _ => (sg_name (pg_name (i := 4) nd rfl (Or.inl rfl)))) (fun _ _ _ _ _ => (sts_one (st_w (sw_or (st_notB (se_call h_is_point hr (by decide) rfl (sa_cons (se_var (pv 4)) sa_nil)) se_bl) (sw_or (st_ne hr (se_call h__law_side hr (by decide) rfl (sa_cons (se_var (pv 1)) (sa_cons (se_var (pv 4)) sa_nil))) se_int) (sw_or1 (st_ne hr (se_call h__law_side hr (by decide) rfl (sa_cons (se_var (pv 2)) (sa_cons (se_var (pv 4)) sa_nil))) se_int))))))) (fun _ _ _ _ _ => (se_var (pv 4)))) (se_lst sa_nil)) (ss_one (ss_ret se_bl)) ss_nil) (ss_cons (ss_if (st_w (sw_and (st_eq hr (se_len rfl b_len (sa_cons (se_var (pv 3)) sa_nil)) se_int) (sw_and1 (st_w (sw_or (st_ge (se_call h__law_before hr (by decide) rfl (sa_cons (se_ix (se_var (pv 3)) se_int) (sa_cons (se_ix (se_var (pv 3)) se_int) sa_nil))) se_int) (sw_or1 (st_ne hr (se_call h_compare_points hr (by decide) rfl (sa_cons (se_ix (se_var (pv 3)) se_int) (sa_cons (se_ix (se_var (pv 3)) se_int) sa_nil))) se_int))))))) (ss_one (ss_ret se_bl)) ss_nil) (ss_cons (ss_if (st_w (sw_and (st_eq hr (se_ix (se_var (pv 1)) se_int) se_int) (sw_and (st_eq hr (se_ix (se_var (pv 2)) se_int) se_int) (sw_and1 (st_ne hr (se_call h_touch_kind hr (by decide) rfl (sa_cons (se_var (pv 1)) (sa_cons (se_var (pv 2)) sa_nil))) (se_call h__law_kind hr (by decide) rfl (sa_cons (se_var (pv 1)) (sa_cons (se_var (pv 2)) sa_nil)))))))) (ss_one (ss_ret se_bl)) ss_nil) (ss_cons (ss_for PassesOwn.never rfl (si_list (se_var (pv 3))) (sg_name (pg_name (i := 4) nd rfl (Or.inl rfl))) (ss_cons (ss_set (i := 5) nd rfl (Or.inl rfl) (se_call h__law_curve hr (by decide) rfl (sa_cons (se_var (pv 0)) sa_nil))) (ss_one (ss_if (st_ne hr (se_call h_sign_at hr (by decide) rfl (sa_cons (se_var (pv 5)) (sa_cons (se_var (pv 4)) sa_nil))) (se_call h__law_side hr (by decide) rfl (sa_cons (se_var (pv 5)) (sa_cons (se_var (pv 4)) sa_nil)))) (ss_one (ss_ret se_bl)) ss_nil)))) (ss_one (ss_ret se_bl))))))))
theorem ok_point_of {f : Addr} {fd : FuncData} (F : Fun K "point_of" "point_of" s_point_of f fd) (gm : mg "point_of" = some (.ref f)) (h_plain : Df P w K mg base "plain" 1 1 F_plain) : Df P w K mg base "point_of" 2 2 F_point_of := by
  have nd : (["x", "y"] : List Str).Nodup := by decide +kernel
  refine df_of (N := ["x", "y"]) (ps := ["x", "y"]) F ⟨rfl, rfl, rfl, nd, rfl, by decide +kernel, by decide +kernel⟩ rfl rfl gm (F.binds (ps := ["x", "y"]) fun _ _ _ _ _ _ us hl => match us, hl with | [_, _], _ => rfl) fun cdv A outer s0 H E aw hr => ?_
  exact (ss_one (ss_ret (se_tup (sa_cons (se_call h_plain hr (by decide) rfl (sa_cons (se_var (pv 0)) sa_nil)) (sa_cons (se_call h_plain hr (by decide) rfl (sa_cons (se_var (pv 1)) sa_nil)) sa_nil)))))
theorem ok__law_bent {f : Addr} {fd : FuncData} (F : Fun K "_law_bent" "_law_bent" s__law_bent f fd) (gm : mg "_law_bent" = some (.ref f)) (b_list : mg "list" = none) (h__law_pick : Df P w K mg base "_law_pick" 2 2 F__law_pick) : Df P w K mg base "_law_bent" 2 3 F__law_bent := by
  have nd : (["w", "one", "rows"] : List Str).Nodup := by decide +kernel
  refine df_of (N := ["w", "one", "rows"]) (ps := ["w", "one"]) F ⟨rfl, rfl, rfl, nd, rfl, by decide +kernel, by decide +kernel⟩ rfl rfl gm (F.binds (ps := ["w", "one"]) fun _ _ _ _ _ _ us hl => match us, hl with | [_, _], _ => rfl) fun cdv A outer s0 H E aw hr => ?_
  exact (ss_cons (ss_set (i := 2) nd rfl (Or.inl rfl) (se_lst (sa_cons (se_sl (se_var (pv 1)) so_none (so_some se_int)) (sa_cons (se_catT (se_tup (sa_cons se_int sa_nil)) (se_sl (se_var (pv 1)) (so_some se_int) so_none)) (sa_cons (se_catT (se_tup (sa_cons se_bl sa_nil)) (se_sl (se_var (pv 1)) (so_some se_int) so_none)) (sa_cons (se_listc rfl b_list (sa_cons (se_var (pv 1)) sa_nil)) (sa_cons (se_catT (se_catT (se_sl (se_var (pv 1)) so_none (so_some se_int)) (se_tup (sa_cons (se_tup (sa_cons se_int (sa_cons se_int sa_nil))) sa_nil))) (se_sl (se_var (pv 1)) (so_some se_int) so_none)) (sa_cons (se_tup (sa_cons se_int (sa_cons (se_tup (sa_cons se_int (sa_cons se_int sa_nil))) (sa_cons (se_tup (sa_cons se_int (sa_cons se_int sa_nil))) (sa_cons (se_tup (sa_cons se_int (sa_cons se_int sa_nil))) sa_nil))))) sa_nil)))))))) (ss_one (ss_ret (se_call h__law_pick hr (by decide) rfl (sa_cons (se_var (pv 0)) (sa_cons (se_catL (se_var (pv 2)) (se_lst (sa_cons (se_tup (sa_cons se_int (sa_cons (se_tup (sa_cons se_int (sa_cons se_int sa_nil))) (sa_cons (se_tup (sa_cons se_int (sa_cons se_int sa_nil))) (sa_cons (se_tup (sa_cons se_int (sa_cons se_int sa_nil))) sa_nil))))) (sa_cons (se_tup (sa_cons se_int (sa_cons (se_tup (sa_cons se_int (sa_cons se_int sa_nil))) (sa_cons (se_tup (sa_cons se_int (sa_cons se_int sa_nil))) (sa_cons (se_tup (sa_cons se_int (sa_cons se_int sa_nil))) sa_nil))))) (sa_cons se_non sa_nil))))) sa_nil))))))
theorem ok_law {f : Addr} {fd : FuncData} (F : Fun K "law" "law" s_law f fd) (b_range : mg "range" = none) (b_len : mg "len" = none) (h__law_draws : Df P w K mg base "_law_draws" 2 1 F__law_draws) (h__law_drawn : Df P w K mg base "_law_drawn" 1 5 F__law_drawn) (h_is_curve : Df P w K mg base "is_curve" 1 6 F_is_curve) (h__law_through : Df P w K mg base "_law_through" 1 7 F__law_through) (h__law_middle : Df P w K mg base "_law_middle" 1 3 F__law_middle) (h_middle_of : Df P w K mg base "middle_of" 1 4 F_middle_of) (h_radius_of : Df P w K mg base "radius_of" 1 5 F_radius_of) (h__law_radius : Df P w K mg base "_law_radius" 1 4 F__law_radius) (h_circle : Df P w K mg base "circle" 3 4 F_circle) (h_touch_kind : Df P w K mg base "touch_kind" 2 6 F_touch_kind) (h__law_next : Df P w K mg base "_law_next" 2 1 F__law_next) (h__law_mul : Df P w K mg base "_law_mul" 2 2 F__law_mul) (h_line : Df P w K mg base "line" 3 4 F_line) (h__law_meets : Df P w K mg base "_law_meets" 3 10 F__law_meets) (h_turns_of : Df P w K mg base "turns_of" 1 6 F_turns_of) (h__law_side : Df P w K mg base "_law_side" 2 4 F__law_side) (h__law_compare : Df P w K mg base "_law_compare" 2 4 F__law_compare) (h__law_small : Df P w K mg base "_law_small" 1 2 F__law_small) (h_point_of : Df P w K mg base "point_of" 2 2 F_point_of) (h__law_point : Df P w K mg base "_law_point" 2 1 F__law_point) (h_sign_at : Df P w K mg base "sign_at" 2 7 F_sign_at) (h__law_bent : Df P w K mg base "_law_bent" 2 3 F__law_bent) (h__law_try : Df P w K mg base "_law_try" 2 6 F__law_try)
    (hd : ∀ ns : List Int, ns.length ≤ 63 → D_law (env0 10 [scr ns]) IsDraws) (hs : ∀ ns : List Int, ns.length ≤ 63 → R_law (env0 10 [scr ns, .dict []]) { nx := fun _ => False, rt := fun d => d = .bool true, bk := fun _ => False, ct := fun _ => False }) : FnOk P w K mg base CX0 11 f fd ["script"] (spLaw K) := by
  have nd : (["script", "w", "turn", "one", "other", "x", "y", "many", "turns", "point"] : List Str).Nodup := by decide +kernel
  refine F.ok (N := ["script", "w", "turn", "one", "other", "x", "y", "many", "turns", "point"]) ⟨rfl, rfl, rfl, nd, rfl, by decide +kernel, by decide +kernel⟩ (fun vs H Q E h => ?_) (fun cdv A outer s0 H vs Q E hr h => ?_)
  · obtain ⟨a, ns, rfl, _⟩ := h
    rfl
  · obtain ⟨a, ns, rfl, hS, hl, q⟩ := h
    refine ⟨_, pss_cons (ps_set (i := 1) nd rfl (Or.inl rfl) (pe_disp (pps_cons pe_str (by exact (se_call (aw := none) h__law_draws hr (by decide) rfl (sa_cons (se_var (pv 0)) (sa_cons se_int sa_nil)))) (pps_cons pe_str pe_int pps_nil)) rfl rfl (by simp) (by simp))) (sse fun aw => (ss_cons (ss_for PassesOwn.never rfl (si_rng1 rfl b_range (sa_cons se_int sa_nil)) (sg_name (pg_name (i := 2) nd rfl (Or.inl rfl))) (ss_cons (ss_asg (se_call h__law_drawn hr (by decide) rfl (sa_cons (se_var (pv 1)) sa_nil)) (sg_tup rfl (sgs_cons (sg_name (pg_name (i := 3) nd rfl (Or.inl rfl))) (sgs_cons (sg_name (pg_name (i := 4) nd rfl (Or.inl rfl))) sgs_nil)))) (ss_cons (ss_if (st_w (sw_or (st_notB (se_call h_is_curve hr (by decide) rfl (sa_cons (se_var (pv 3)) sa_nil)) se_bl) (sw_or1 (st_not (st_val (se_call h__law_through hr (by decide) rfl (sa_cons (se_var (pv 1)) sa_nil))))))) (ss_one (ss_ret se_bl)) ss_nil) (ss_cons (ss_if (st_eq hr (se_ix (se_var (pv 3)) se_int) se_int) (ss_cons (ss_asg (se_call h__law_middle hr (by decide) rfl (sa_cons (se_var (pv 3)) sa_nil)) (sg_tup rfl (sgs_cons (sg_name (pg_name (i := 5) nd rfl (Or.inl rfl))) (sgs_cons (sg_name (pg_name (i := 6) nd rfl (Or.inl rfl))) sgs_nil)))) (ss_one (ss_if (st_w (sw_or (st_ne hr (se_call h_middle_of hr (by decide) rfl (sa_cons (se_var (pv 3)) sa_nil)) (se_tup (sa_cons (se_var (pv 5)) (sa_cons (se_var (pv 6)) sa_nil)))) (sw_or (st_ne hr (se_call h_radius_of hr (by decide) rfl (sa_cons (se_var (pv 3)) sa_nil)) (se_call h__law_radius hr (by decide) rfl (sa_cons (se_var (pv 3)) sa_nil))) (sw_or (st_ne hr (se_call h_circle hr (by decide) rfl (sa_cons (se_var (pv 5)) (sa_cons (se_var (pv 6)) (sa_cons (se_call h__law_radius hr (by decide) rfl (sa_cons (se_var (pv 3)) sa_nil)) sa_nil)))) (se_var (pv 3))) (sw_or1 (st_ne hr (se_call h_touch_kind hr (by decide) rfl (sa_cons (se_var (pv 3)) (sa_cons (se_var (pv 3)) sa_nil))) se_str)))))) (ss_one (ss_ret se_bl)) ss_nil))) (ss_cons (ss_set (i := 7) nd rfl (Or.inl rfl) (se_tup (sa_cons (se_sub (se_call h__law_next hr (by decide) rfl (sa_cons (se_var (pv 1)) (sa_cons se_int sa_nil))) se_int) (sa_cons se_int sa_nil)))) (ss_one (ss_if (st_w (sw_and (st_ne hr (se_ix (se_var (pv 7)) se_int) se_int) (sw_and1 (st_ne hr (se_call h_line hr (by decide) rfl (sa_cons (se_call h__law_mul hr (by decide) rfl (sa_cons (se_ix (se_var (pv 3)) se_int) (sa_cons (se_var (pv 7)) sa_nil))) (sa_cons (se_call h__law_mul hr (by decide) rfl (sa_cons (se_ix (se_var (pv 3)) se_int) (sa_cons (se_var (pv 7)) sa_nil))) (sa_cons (se_call h__law_mul hr (by decide) rfl (sa_cons (se_ix (se_var (pv 3)) se_int) (sa_cons (se_var (pv 7)) sa_nil))) sa_nil)))) (se_tup (sa_cons (se_var (pv 3)) (sa_cons (se_lt (se_ix (se_var (pv 7)) se_int) se_int) sa_nil))))))) (ss_one (ss_ret se_bl)) ss_nil)))) (ss_cons (ss_if (st_w (sw_and (st_ne hr (se_var (pv 3)) (se_var (pv 4))) (sw_and1 (st_not (st_val (se_call h__law_meets hr (by decide) rfl (sa_cons (se_var (pv 1)) (sa_cons (se_var (pv 3)) (sa_cons (se_var (pv 4)) sa_nil))))))))) (ss_one (ss_ret se_bl)) ss_nil) (ss_cons (ss_set (i := 8) nd rfl (Or.inl rfl) (se_call h_turns_of hr (by decide) rfl (sa_cons (se_var (pv 3)) sa_nil))) (ss_cons (ss_if (st_ne hr (se_len rfl b_len (sa_cons (se_var (pv 8)) sa_nil)) (se_mul se_int (se_ix (se_var (pv 3)) se_int))) (ss_one (ss_ret se_bl)) ss_nil) (ss_cons (ss_for PassesOwn.never rfl (si_list (se_var (pv 8))) (sg_name (pg_name (i := 9) nd rfl (Or.inl rfl))) (ss_one (ss_if (st_w (sw_or (st_ne hr (se_call h__law_side hr (by decide) rfl (sa_cons (se_var (pv 3)) (sa_cons (se_var (pv 9)) sa_nil))) se_int) (sw_or1 (st_ne hr (se_call h__law_compare hr (by decide) rfl (sa_cons (se_ix (se_var (pv 9)) se_int) (sa_cons (se_tup (sa_cons (se_ix (se_call h__law_middle hr (by decide) rfl (sa_cons (se_var (pv 3)) sa_nil)) se_int) (sa_cons (se_tup (sa_cons se_int (sa_cons se_int sa_nil))) (sa_cons (se_tup (sa_cons se_int (sa_cons se_int sa_nil))) sa_nil)))) sa_nil))) se_int)))) (ss_one (ss_ret se_bl)) ss_nil))) (ss_cons (ss_par (ps_par (i := 5) (j := 6) rfl nd rfl rfl (by decide) rfl rfl (sa_cons (se_call h__law_small hr (by decide) rfl (sa_cons (se_var (pv 1)) sa_nil)) (sa_cons (se_call h__law_small hr (by decide) rfl (sa_cons (se_var (pv 1)) sa_nil)) sa_nil)) (by rfl))) (ss_one (ss_if (st_w (sw_or (st_ne hr (se_call h_point_of hr (by decide) rfl (sa_cons (se_var (pv 5)) (sa_cons (se_var (pv 6)) sa_nil))) (se_call h__law_point hr (by decide) rfl (sa_cons (se_var (pv 5)) (sa_cons (se_var (pv 6)) sa_nil)))) (sw_or (st_ne hr (se_call h_sign_at hr (by decide) rfl (sa_cons (se_var (pv 3)) (sa_cons (se_call h__law_point hr (by decide) rfl (sa_cons (se_var (pv 5)) (sa_cons (se_var (pv 6)) sa_nil))) sa_nil))) (se_call h__law_side hr (by decide) rfl (sa_cons (se_var (pv 3)) (sa_cons (se_call h__law_point hr (by decide) rfl (sa_cons (se_var (pv 5)) (sa_cons (se_var (pv 6)) sa_nil))) sa_nil)))) (sw_or1 (st_notB (se_call h_is_curve hr (by decide) rfl (sa_cons (se_call h__law_bent hr (by decide) rfl (sa_cons (se_var (pv 1)) (sa_cons (se_var (pv 3)) sa_nil))) sa_nil)) se_bl))))) (ss_one (ss_ret se_bl)) ss_nil))))))))))) (ss_one (ss_ret (se_eq hr (se_call h__law_try hr (by decide) rfl (sa_cons se_str (sa_cons (se_lst (sa_cons (se_tup (sa_cons (se_tup (sa_cons se_int (sa_cons se_int sa_nil))) (sa_cons (se_tup (sa_cons se_int (sa_cons se_int sa_nil))) sa_nil))) (sa_cons (se_tup (sa_cons (se_tup (sa_cons se_int (sa_cons se_int sa_nil))) (sa_cons (se_tup (sa_cons se_int (sa_cons se_int sa_nil))) sa_nil))) sa_nil))) sa_nil))) se_str))))), ?_⟩
    exact law_reads (m := D_law) (s := R_law) (by decide) hS (hd ns hl) (hs ns hl) q
end

theorem all_mk {w : PySem.World} {K : PySem.W.Frag} {h : Heap} {mg : Str → Option Value} {fa C CP : Addr} (X : K.In h) (G : h.Ns mainGlobals mg) (hfa : mg "law" = some (.ref fa))
    (d__law_draws : DefAt K "_law_draws" s__law_draws)
    (d__law_frac : DefAt K "_law_frac" s__law_frac)
    (d__law_over : DefAt K "_law_over" s__law_over)
    (d__law_line : DefAt K "_law_line" s__law_line)
    (d__law_next : DefAt K "_law_next" s__law_next)
    (d__law_less : DefAt K "_law_less" s__law_less)
    (d__law_add : DefAt K "_law_add" s__law_add)
    (d__law_mul : DefAt K "_law_mul" s__law_mul)
    (d__law_circle : DefAt K "_law_circle" s__law_circle)
    (d__law_small : DefAt K "_law_small" s__law_small)
    (d__law_curve : DefAt K "_law_curve" s__law_curve)
    (d__law_middle : DefAt K "_law_middle" s__law_middle)
    (d__law_pick : DefAt K "_law_pick" s__law_pick)
    (d__law_drawn : DefAt K "_law_drawn" s__law_drawn)
    (d_common : DefAt K "common" s_common)
    (d_fraction : DefAt K "fraction" s_fraction)
    (d_half : DefAt K "half" s_half)
    (d_turned : DefAt K "turned" s_turned)
    (d_middle_of : DefAt K "middle_of" s_middle_of)
    (d_minus : DefAt K "minus" s_minus)
    (d_added : DefAt K "added" s_added)
    (d_square : DefAt K "square" s_square)
    (d_radius_of : DefAt K "radius_of" s_radius_of)
    (d_plain : DefAt K "plain" s_plain)
    (d_whole_root : DefAt K "whole_root" s_whole_root)
    (d_times : DefAt K "times" s_times)
    (d_tidy : DefAt K "tidy" s_tidy)
    (d_turns_of : DefAt K "turns_of" s_turns_of)
    (d_over : DefAt K "over" s_over)
    (d_sign_of : DefAt K "sign_of" s_sign_of)
    (d_sign : DefAt K "sign" s_sign)
    (d_circle : DefAt K "circle" s_circle)
    (d_circle_through : DefAt K "circle_through" s_circle_through)
    (d_line : DefAt K "line" s_line)
    (d_line_through : DefAt K "line_through" s_line_through)
    (d__law_try : DefAt K "_law_try" s__law_try)
    (d_is_number : DefAt K "is_number" s_is_number)
    (d_is_fraction : DefAt K "is_fraction" s_is_fraction)
    (d_is_curve : DefAt K "is_curve" s_is_curve)
    (d__law_point : DefAt K "_law_point" s__law_point)
    (d__law_says : DefAt K "_law_says" s__law_says)
    (d__law_sgn : DefAt K "_law_sgn" s__law_sgn)
    (d__law_sign : DefAt K "_law_sign" s__law_sign)
    (d__law_value : DefAt K "_law_value" s__law_value)
    (d__law_side : DefAt K "_law_side" s__law_side)
    (d__law_through : DefAt K "_law_through" s__law_through)
    (d_sign_of_root : DefAt K "sign_of_root" s_sign_of_root)
    (d_sum_of : DefAt K "sum_of" s_sum_of)
    (d_sign_of_two : DefAt K "sign_of_two" s_sign_of_two)
    (d_compare : DefAt K "compare" s_compare)
    (d_compare_points : DefAt K "compare_points" s_compare_points)
    (d_in_order : DefAt K "in_order" s_in_order)
    (d_of_lines : DefAt K "of_lines" s_of_lines)
    (d_is_upright : DefAt K "is_upright" s_is_upright)
    (d_both_roots : DefAt K "both_roots" s_both_roots)
    (d_added_root : DefAt K "added_root" s_added_root)
    (d_by_fraction : DefAt K "by_fraction" s_by_fraction)
    (d_of_line_and_circle : DefAt K "of_line_and_circle" s_of_line_and_circle)
    (d_same_power : DefAt K "same_power" s_same_power)
    (d_meets : DefAt K "meets" s_meets)
    (d__law_apart : DefAt K "_law_apart" s__law_apart)
    (d__law_radius : DefAt K "_law_radius" s__law_radius)
    (d__law_many : DefAt K "_law_many" s__law_many)
    (d_touch_kind : DefAt K "touch_kind" s_touch_kind)
    (d__law_kind : DefAt K "_law_kind" s__law_kind)
    (d_times_root : DefAt K "times_root" s_times_root)
    (d_value_at : DefAt K "value_at" s_value_at)
    (d_sign_at : DefAt K "sign_at" s_sign_at)
    (d__law_compare : DefAt K "_law_compare" s__law_compare)
    (d__law_before : DefAt K "_law_before" s__law_before)
    (d_is_root : DefAt K "is_root" s_is_root)
    (d_is_point : DefAt K "is_point" s_is_point)
    (d__law_meets : DefAt K "_law_meets" s__law_meets)
    (d_point_of : DefAt K "point_of" s_point_of)
    (d__law_bent : DefAt K "_law_bent" s__law_bent)
    (d_law : DefAt K "law" s_law)
    (cc_NOTHING : CstAt K "NOTHING" (0) (1))
    (z_range : PySem.W.nsIn K mainGlobals "range" = some none)
    (z_len : PySem.W.nsIn K mainGlobals "len" = some none)
    (z_abs : PySem.W.nsIn K mainGlobals "abs" = some none)
    (z_int : PySem.W.nsIn K mainGlobals "int" = some none)
    (z_isinstance : PySem.W.nsIn K mainGlobals "isinstance" = some none)
    (z_bool : PySem.W.nsIn K mainGlobals "bool" = some none)
    (z_tuple : PySem.W.nsIn K mainGlobals "tuple" = some none)
    (z_all : PySem.W.nsIn K mainGlobals "all" = some none)
    (z_list : PySem.W.nsIn K mainGlobals "list" = some none)
    (RA : ∀ base : Heap, RaiseAt PySem.Challenge.rw_cornersexact_k01_wide_curves_and_where_t.prog w K mg base "Unfit" C) (TA : TryAt K mg C CP)
    (hd : ∀ ns : List Int, ns.length ≤ 63 → D_law (env0 10 [scr ns]) IsDraws) (hs : ∀ ns : List Int, ns.length ≤ 63 → R_law (env0 10 [scr ns, .dict []]) { nx := fun _ => False, rt := fun d => d = .bool true, bk := fun _ => False, ct := fun _ => False }) :
    ∃ fd : FuncData, (∀ (s : Shared) (v : Value), BindsTo s fd ⟨[v], []⟩ [("script", v)]) ∧ ∀ base : Heap, K.In base → base.Ns mainGlobals mg → FnOk PySem.Challenge.rw_cornersexact_k01_wide_curves_and_where_t.prog w K mg base CX0 11 fa fd ["script"] (spLaw K) := by
  have k_NOTHING : Kst K mg "NOTHING" c_NOTHING := by
    obtain ⟨_, _, _, _, _, _, a, l⟩ := cc_NOTHING
    exact kst_pair (PySem.W.mg_of X G a) l
  have b_range := PySem.W.mg_none_of X G z_range
  have b_len := PySem.W.mg_none_of X G z_len
  have b_abs := PySem.W.mg_none_of X G z_abs
  have b_int := PySem.W.mg_none_of X G z_int
  have b_isinstance := PySem.W.mg_none_of X G z_isinstance
  have b_bool := PySem.W.mg_none_of X G z_bool
  have b_tuple := PySem.W.mg_none_of X G z_tuple
  have b_all := PySem.W.mg_none_of X G z_all
  have b_list := PySem.W.mg_none_of X G z_list
  have h__law_draws : ∀ base, Df PySem.Challenge.rw_cornersexact_k01_wide_curves_and_where_t.prog w K mg base "_law_draws" 2 1 F__law_draws := by
    obtain ⟨_, _, f, g⟩ := d__law_draws.has X G
    exact fun base => ok__law_draws f g  b_range b_len b_abs b_int   
  have h__law_frac : ∀ base, Df PySem.Challenge.rw_cornersexact_k01_wide_curves_and_where_t.prog w K mg base "_law_frac" 2 1 F__law_frac := by
    obtain ⟨_, _, f, g⟩ := d__law_frac.has X G
    exact fun base => ok__law_frac f g  b_abs b_range   
  have h__law_over : ∀ base, Df PySem.Challenge.rw_cornersexact_k01_wide_curves_and_where_t.prog w K mg base "_law_over" 2 2 F__law_over := by
    obtain ⟨_, _, f, g⟩ := d__law_over.has X G
    exact fun base => ok__law_over f g   (h__law_frac base)  
  have h__law_line : ∀ base, Df PySem.Challenge.rw_cornersexact_k01_wide_curves_and_where_t.prog w K mg base "_law_line" 3 3 F__law_line := by
    obtain ⟨_, _, f, g⟩ := d__law_line.has X G
    exact fun base => ok__law_line f g   (h__law_over base)  
  have h__law_next : ∀ base, Df PySem.Challenge.rw_cornersexact_k01_wide_curves_and_where_t.prog w K mg base "_law_next" 2 1 F__law_next := by
    obtain ⟨_, _, f, g⟩ := d__law_next.has X G
    exact fun base => ok__law_next f g  b_len b_int   
  have h__law_less : ∀ base, Df PySem.Challenge.rw_cornersexact_k01_wide_curves_and_where_t.prog w K mg base "_law_less" 2 2 F__law_less := by
    obtain ⟨_, _, f, g⟩ := d__law_less.has X G
    exact fun base => ok__law_less f g   (h__law_frac base)  
  have h__law_add : ∀ base, Df PySem.Challenge.rw_cornersexact_k01_wide_curves_and_where_t.prog w K mg base "_law_add" 2 2 F__law_add := by
    obtain ⟨_, _, f, g⟩ := d__law_add.has X G
    exact fun base => ok__law_add f g   (h__law_frac base)  
  have h__law_mul : ∀ base, Df PySem.Challenge.rw_cornersexact_k01_wide_curves_and_where_t.prog w K mg base "_law_mul" 2 2 F__law_mul := by
    obtain ⟨_, _, f, g⟩ := d__law_mul.has X G
    exact fun base => ok__law_mul f g   (h__law_frac base)  
  have h__law_circle : ∀ base, Df PySem.Challenge.rw_cornersexact_k01_wide_curves_and_where_t.prog w K mg base "_law_circle" 3 3 F__law_circle := by
    obtain ⟨_, _, f, g⟩ := d__law_circle.has X G
    exact fun base => ok__law_circle f g   (h__law_mul base) (h__law_add base) (h__law_less base)  
  have h__law_small : ∀ base, Df PySem.Challenge.rw_cornersexact_k01_wide_curves_and_where_t.prog w K mg base "_law_small" 1 2 F__law_small := by
    obtain ⟨_, _, f, g⟩ := d__law_small.has X G
    exact fun base => ok__law_small f g   (h__law_next base) (h__law_frac base)  
  have h__law_curve : ∀ base, Df PySem.Challenge.rw_cornersexact_k01_wide_curves_and_where_t.prog w K mg base "_law_curve" 1 4 F__law_curve := by
    obtain ⟨_, _, f, g⟩ := d__law_curve.has X G
    exact fun base => ok__law_curve f g   (h__law_next base) (h__law_small base) (h__law_frac base) (h__law_circle base) (h__law_line base)  
  have h__law_middle : ∀ base, Df PySem.Challenge.rw_cornersexact_k01_wide_curves_and_where_t.prog w K mg base "_law_middle" 1 3 F__law_middle := by
    obtain ⟨_, _, f, g⟩ := d__law_middle.has X G
    exact fun base => ok__law_middle f g   (h__law_over base)  
  have h__law_pick : ∀ base, Df PySem.Challenge.rw_cornersexact_k01_wide_curves_and_where_t.prog w K mg base "_law_pick" 2 2 F__law_pick := by
    obtain ⟨_, _, f, g⟩ := d__law_pick.has X G
    exact fun base => ok__law_pick f g  b_len (h__law_next base)  
  have h__law_drawn : ∀ base, Df PySem.Challenge.rw_cornersexact_k01_wide_curves_and_where_t.prog w K mg base "_law_drawn" 1 5 F__law_drawn := by
    obtain ⟨_, _, f, g⟩ := d__law_drawn.has X G
    exact fun base => ok__law_drawn f g   (h__law_curve base) (h__law_next base) (h__law_middle base) (h__law_mul base) (h__law_add base) (h__law_circle base) (h__law_line base) (h__law_pick base)  
  have h_common : ∀ base, Df PySem.Challenge.rw_cornersexact_k01_wide_curves_and_where_t.prog w K mg base "common" 2 1 F_common := by
    obtain ⟨_, _, f, g⟩ := d_common.has X G
    exact fun base => ok_common f g  b_abs   
  have h_fraction : ∀ base, Df PySem.Challenge.rw_cornersexact_k01_wide_curves_and_where_t.prog w K mg base "fraction" 2 2 F_fraction := by
    obtain ⟨_, _, f, g⟩ := d_fraction.has X G
    exact fun base => ok_fraction f g   (h_common base)  
  have h_half : ∀ base, Df PySem.Challenge.rw_cornersexact_k01_wide_curves_and_where_t.prog w K mg base "half" 1 3 F_half := by
    obtain ⟨_, _, f, g⟩ := d_half.has X G
    exact fun base => ok_half f g   (h_fraction base)  
  have h_turned : ∀ base, Df PySem.Challenge.rw_cornersexact_k01_wide_curves_and_where_t.prog w K mg base "turned" 1 1 F_turned := by
    obtain ⟨_, _, f, g⟩ := d_turned.has X G
    exact fun base => ok_turned f g     
  have h_middle_of : ∀ base, Df PySem.Challenge.rw_cornersexact_k01_wide_curves_and_where_t.prog w K mg base "middle_of" 1 4 F_middle_of := by
    obtain ⟨_, _, f, g⟩ := d_middle_of.has X G
    exact fun base => ok_middle_of f g   (h_turned base) (h_half base)  
  have h_minus : ∀ base, Df PySem.Challenge.rw_cornersexact_k01_wide_curves_and_where_t.prog w K mg base "minus" 2 3 F_minus := by
    obtain ⟨_, _, f, g⟩ := d_minus.has X G
    exact fun base => ok_minus f g   (h_fraction base)  
  have h_added : ∀ base, Df PySem.Challenge.rw_cornersexact_k01_wide_curves_and_where_t.prog w K mg base "added" 2 3 F_added := by
    obtain ⟨_, _, f, g⟩ := d_added.has X G
    exact fun base => ok_added f g   (h_fraction base)  
  have h_square : ∀ base, Df PySem.Challenge.rw_cornersexact_k01_wide_curves_and_where_t.prog w K mg base "square" 1 1 F_square := by
    obtain ⟨_, _, f, g⟩ := d_square.has X G
    exact fun base => ok_square f g     
  have h_radius_of : ∀ base, Df PySem.Challenge.rw_cornersexact_k01_wide_curves_and_where_t.prog w K mg base "radius_of" 1 5 F_radius_of := by
    obtain ⟨_, _, f, g⟩ := d_radius_of.has X G
    exact fun base => ok_radius_of f g   (h_middle_of base) (h_square base) (h_added base) (h_minus base)  
  have h_plain : ∀ base, Df PySem.Challenge.rw_cornersexact_k01_wide_curves_and_where_t.prog w K mg base "plain" 1 1 F_plain := by
    obtain ⟨_, _, f, g⟩ := d_plain.has X G
    exact fun base => ok_plain f g k_NOTHING    
  have h_whole_root : ∀ base, Df PySem.Challenge.rw_cornersexact_k01_wide_curves_and_where_t.prog w K mg base "whole_root" 1 1 F_whole_root := by
    obtain ⟨_, _, f, g⟩ := d_whole_root.has X G
    exact fun base => ok_whole_root f g     
  have h_times : ∀ base, Df PySem.Challenge.rw_cornersexact_k01_wide_curves_and_where_t.prog w K mg base "times" 2 3 F_times := by
    obtain ⟨_, _, f, g⟩ := d_times.has X G
    exact fun base => ok_times f g   (h_fraction base)  
  have h_tidy : ∀ base, Df PySem.Challenge.rw_cornersexact_k01_wide_curves_and_where_t.prog w K mg base "tidy" 3 4 F_tidy := by
    obtain ⟨_, _, f, g⟩ := d_tidy.has X G
    exact fun base => ok_tidy f g k_NOTHING  (h_plain base) (h_whole_root base) (h_times base) (h_added base)  
  have h_turns_of : ∀ base, Df PySem.Challenge.rw_cornersexact_k01_wide_curves_and_where_t.prog w K mg base "turns_of" 1 6 F_turns_of := by
    obtain ⟨_, _, f, g⟩ := d_turns_of.has X G
    exact fun base => ok_turns_of f g   (h_middle_of base) (h_radius_of base) (h_tidy base) (h_plain base)  
  have h_over : ∀ base, Df PySem.Challenge.rw_cornersexact_k01_wide_curves_and_where_t.prog w K mg base "over" 2 3 F_over := by
    obtain ⟨_, _, f, g⟩ := d_over.has X G
    exact fun base => ok_over f g   (h_fraction base)  
  have h_sign_of : ∀ base, Df PySem.Challenge.rw_cornersexact_k01_wide_curves_and_where_t.prog w K mg base "sign_of" 1 1 F_sign_of := by
    obtain ⟨_, _, f, g⟩ := d_sign_of.has X G
    exact fun base => ok_sign_of f g     
  have h_sign : ∀ base, Df PySem.Challenge.rw_cornersexact_k01_wide_curves_and_where_t.prog w K mg base "sign" 1 2 F_sign := by
    obtain ⟨_, _, f, g⟩ := d_sign.has X G
    exact fun base => ok_sign f g   (h_sign_of base)  
  have x_circle : ∀ base, Dx PySem.Challenge.rw_cornersexact_k01_wide_curves_and_where_t.prog w K mg base C "circle" 3 4 FX_circle := by
    obtain ⟨_, _, f, g⟩ := d_circle.has X G
    exact fun base => okx_circle f g   (h_sign base) (h_square base) (h_added base) (h_minus base) (h_times base)  (RA base)
  have h_circle : ∀ base, Df PySem.Challenge.rw_cornersexact_k01_wide_curves_and_where_t.prog w K mg base "circle" 3 4 F_circle := fun base => (x_circle base).df
  have x_circle_through : ∀ base, Dx PySem.Challenge.rw_cornersexact_k01_wide_curves_and_where_t.prog w K mg base C "circle_through" 3 5 FX_circle_through := by
    obtain ⟨_, _, f, g⟩ := d_circle_through.has X G
    exact fun base => okx_circle_through f g k_NOTHING  (h_square base) (h_added base) (h_minus base) (h_times base) (h_over base) (x_circle base) (RA base)
  have h_circle_through : ∀ base, Df PySem.Challenge.rw_cornersexact_k01_wide_curves_and_where_t.prog w K mg base "circle_through" 3 5 F_circle_through := fun base => (x_circle_through base).df
  have x_line : ∀ base, Dx PySem.Challenge.rw_cornersexact_k01_wide_curves_and_where_t.prog w K mg base C "line" 3 4 FX_line := by
    obtain ⟨_, _, f, g⟩ := d_line.has X G
    exact fun base => okx_line f g k_NOTHING  (h_over base)  (RA base)
  have h_line : ∀ base, Df PySem.Challenge.rw_cornersexact_k01_wide_curves_and_where_t.prog w K mg base "line" 3 4 F_line := fun base => (x_line base).df
  have x_line_through : ∀ base, Dx PySem.Challenge.rw_cornersexact_k01_wide_curves_and_where_t.prog w K mg base C "line_through" 2 5 FX_line_through := by
    obtain ⟨_, _, f, g⟩ := d_line_through.has X G
    exact fun base => okx_line_through f g   (h_minus base) (h_times base) (h_added base) (h_turned base) (x_line base) 
  have h_line_through : ∀ base, Df PySem.Challenge.rw_cornersexact_k01_wide_curves_and_where_t.prog w K mg base "line_through" 2 5 F_line_through := fun base => (x_line_through base).df
  have h__law_try : ∀ base, Df PySem.Challenge.rw_cornersexact_k01_wide_curves_and_where_t.prog w K mg base "_law_try" 2 6 F__law_try := by
    obtain ⟨_, _, f, g⟩ := d__law_try.has X G
    exact fun base => ok__law_try f g    (x_circle_through base) (x_line_through base) TA
  have h_is_number : ∀ base, Df PySem.Challenge.rw_cornersexact_k01_wide_curves_and_where_t.prog w K mg base "is_number" 1 1 F_is_number := by
    obtain ⟨_, _, f, g⟩ := d_is_number.has X G
    exact fun base => ok_is_number f g  b_isinstance b_int b_bool   
  have h_is_fraction : ∀ base, Df PySem.Challenge.rw_cornersexact_k01_wide_curves_and_where_t.prog w K mg base "is_fraction" 1 2 F_is_fraction := by
    obtain ⟨_, _, f, g⟩ := d_is_fraction.has X G
    exact fun base => ok_is_fraction f g  b_isinstance b_tuple b_len (h_is_number base) (h_common base)  
  have h_is_curve : ∀ base, Df PySem.Challenge.rw_cornersexact_k01_wide_curves_and_where_t.prog w K mg base "is_curve" 1 6 F_is_curve := by
    obtain ⟨_, _, f, g⟩ := d_is_curve.has X G
    exact fun base => ok_is_curve f g k_NOTHING b_isinstance b_tuple b_len b_all b_bool b_int (h_is_fraction base) (h_radius_of base) (h_sign base)  
  have h__law_point : ∀ base, Df PySem.Challenge.rw_cornersexact_k01_wide_curves_and_where_t.prog w K mg base "_law_point" 2 1 F__law_point := by
    obtain ⟨_, _, f, g⟩ := d__law_point.has X G
    exact fun base => ok__law_point f g     
  have h__law_says : ∀ base, Df PySem.Challenge.rw_cornersexact_k01_wide_curves_and_where_t.prog w K mg base "_law_says" 2 1 F__law_says := by
    obtain ⟨_, _, f, g⟩ := d__law_says.has X G
    exact fun base => ok__law_says f g  b_isinstance b_bool   
  have h__law_sgn : ∀ base, Df PySem.Challenge.rw_cornersexact_k01_wide_curves_and_where_t.prog w K mg base "_law_sgn" 1 1 F__law_sgn := by
    obtain ⟨_, _, f, g⟩ := d__law_sgn.has X G
    exact fun base => ok__law_sgn f g     
  have h__law_sign : ∀ base, Df PySem.Challenge.rw_cornersexact_k01_wide_curves_and_where_t.prog w K mg base "_law_sign" 1 3 F__law_sign := by
    obtain ⟨_, _, f, g⟩ := d__law_sign.has X G
    exact fun base => ok__law_sign f g   (h__law_sgn base) (h__law_mul base) (h__law_less base)  
  have h__law_value : ∀ base, Df PySem.Challenge.rw_cornersexact_k01_wide_curves_and_where_t.prog w K mg base "_law_value" 2 3 F__law_value := by
    obtain ⟨_, _, f, g⟩ := d__law_value.has X G
    exact fun base => ok__law_value f g   (h__law_mul base) (h__law_add base)  
  have h__law_side : ∀ base, Df PySem.Challenge.rw_cornersexact_k01_wide_curves_and_where_t.prog w K mg base "_law_side" 2 4 F__law_side := by
    obtain ⟨_, _, f, g⟩ := d__law_side.has X G
    exact fun base => ok__law_side f g   (h__law_value base) (h__law_sign base)  
  have h__law_through : ∀ base, Df PySem.Challenge.rw_cornersexact_k01_wide_curves_and_where_t.prog w K mg base "_law_through" 1 7 F__law_through := by
    obtain ⟨_, _, f, g⟩ := d__law_through.has X G
    exact fun base => ok__law_through f g  b_range (h__law_small base) (h__law_less base) (h__law_mul base) (h__law_try base) (h_is_curve base) (h__law_point base) (h__law_side base) (h__law_add base) (h__law_says base)  
  have h_sign_of_root : ∀ base, Df PySem.Challenge.rw_cornersexact_k01_wide_curves_and_where_t.prog w K mg base "sign_of_root" 1 4 F_sign_of_root := by
    obtain ⟨_, _, f, g⟩ := d_sign_of_root.has X G
    exact fun base => ok_sign_of_root f g k_NOTHING  (h_sign base) (h_square base) (h_times base) (h_minus base)  
  have h_sum_of : ∀ base, Df PySem.Challenge.rw_cornersexact_k01_wide_curves_and_where_t.prog w K mg base "sum_of" 1 4 F_sum_of := by
    obtain ⟨_, _, f, g⟩ := d_sum_of.has X G
    exact fun base => ok_sum_of f g k_NOTHING  (h_added base)  
  have h_sign_of_two : ∀ base, Df PySem.Challenge.rw_cornersexact_k01_wide_curves_and_where_t.prog w K mg base "sign_of_two" 5 5 F_sign_of_two := by
    obtain ⟨_, _, f, g⟩ := d_sign_of_two.has X G
    exact fun base => ok_sign_of_two f g k_NOTHING  (h_sign_of_root base) (h_sign base) (h_square base) (h_times base) (h_sum_of base) (h_minus base)  
  have h_compare : ∀ base, Df PySem.Challenge.rw_cornersexact_k01_wide_curves_and_where_t.prog w K mg base "compare" 2 6 F_compare := by
    obtain ⟨_, _, f, g⟩ := d_compare.has X G
    exact fun base => ok_compare f g   (h_minus base) (h_turned base) (h_sign_of_two base)  
  have h_compare_points : ∀ base, Df PySem.Challenge.rw_cornersexact_k01_wide_curves_and_where_t.prog w K mg base "compare_points" 2 7 F_compare_points := by
    obtain ⟨_, _, f, g⟩ := d_compare_points.has X G
    exact fun base => ok_compare_points f g   (h_compare base)  
  have h_in_order : ∀ base, Df PySem.Challenge.rw_cornersexact_k01_wide_curves_and_where_t.prog w K mg base "in_order" 1 8 F_in_order := by
    obtain ⟨_, _, f, g⟩ := d_in_order.has X G
    exact fun base => ok_in_order f g  b_len (h_compare_points base)  
  have h_of_lines : ∀ base, Df PySem.Challenge.rw_cornersexact_k01_wide_curves_and_where_t.prog w K mg base "of_lines" 2 4 F_of_lines := by
    obtain ⟨_, _, f, g⟩ := d_of_lines.has X G
    exact fun base => ok_of_lines f g k_NOTHING  (h_times base) (h_minus base) (h_over base) (h_plain base)  
  have h_is_upright : ∀ base, Df PySem.Challenge.rw_cornersexact_k01_wide_curves_and_where_t.prog w K mg base "is_upright" 1 1 F_is_upright := by
    obtain ⟨_, _, f, g⟩ := d_is_upright.has X G
    exact fun base => ok_is_upright f g k_NOTHING    
  have h_both_roots : ∀ base, Df PySem.Challenge.rw_cornersexact_k01_wide_curves_and_where_t.prog w K mg base "both_roots" 3 5 F_both_roots := by
    obtain ⟨_, _, f, g⟩ := d_both_roots.has X G
    exact fun base => ok_both_roots f g k_NOTHING  (h_square base) (h_times base) (h_minus base) (h_sign base) (h_turned base) (h_over base) (h_plain base) (h_tidy base)  
  have h_added_root : ∀ base, Df PySem.Challenge.rw_cornersexact_k01_wide_curves_and_where_t.prog w K mg base "added_root" 2 5 F_added_root := by
    obtain ⟨_, _, f, g⟩ := d_added_root.has X G
    exact fun base => ok_added_root f g k_NOTHING  (h_added base) (h_tidy base)  
  have h_by_fraction : ∀ base, Df PySem.Challenge.rw_cornersexact_k01_wide_curves_and_where_t.prog w K mg base "by_fraction" 2 5 F_by_fraction := by
    obtain ⟨_, _, f, g⟩ := d_by_fraction.has X G
    exact fun base => ok_by_fraction f g   (h_times base) (h_tidy base)  
  have h_of_line_and_circle : ∀ base, Df PySem.Challenge.rw_cornersexact_k01_wide_curves_and_where_t.prog w K mg base "of_line_and_circle" 2 6 F_of_line_and_circle := by
    obtain ⟨_, _, f, g⟩ := d_of_line_and_circle.has X G
    exact fun base => ok_of_line_and_circle f g   (h_is_upright base) (h_turned base) (h_square base) (h_times base) (h_sum_of base) (h_both_roots base) (h_plain base) (h_over base) (h_added base) (h_by_fraction base) (h_added_root base)  
  have h_same_power : ∀ base, Df PySem.Challenge.rw_cornersexact_k01_wide_curves_and_where_t.prog w K mg base "same_power" 2 4 F_same_power := by
    obtain ⟨_, _, f, g⟩ := d_same_power.has X G
    exact fun base => ok_same_power f g k_NOTHING  (h_minus base) (h_over base)  
  have h_meets : ∀ base, Df PySem.Challenge.rw_cornersexact_k01_wide_curves_and_where_t.prog w K mg base "meets" 2 9 F_meets := by
    obtain ⟨_, _, f, g⟩ := d_meets.has X G
    exact fun base => ok_meets f g   (h_of_lines base) (h_of_line_and_circle base) (h_same_power base) (h_in_order base)  
  have h__law_apart : ∀ base, Df PySem.Challenge.rw_cornersexact_k01_wide_curves_and_where_t.prog w K mg base "_law_apart" 2 3 F__law_apart := by
    obtain ⟨_, _, f, g⟩ := d__law_apart.has X G
    exact fun base => ok__law_apart f g   (h__law_less base) (h__law_mul base) (h__law_add base)  
  have h__law_radius : ∀ base, Df PySem.Challenge.rw_cornersexact_k01_wide_curves_and_where_t.prog w K mg base "_law_radius" 1 4 F__law_radius := by
    obtain ⟨_, _, f, g⟩ := d__law_radius.has X G
    exact fun base => ok__law_radius f g   (h__law_middle base) (h__law_mul base) (h__law_add base) (h__law_less base)  
  have h__law_many : ∀ base, Df PySem.Challenge.rw_cornersexact_k01_wide_curves_and_where_t.prog w K mg base "_law_many" 2 5 F__law_many := by
    obtain ⟨_, _, f, g⟩ := d__law_many.has X G
    exact fun base => ok__law_many f g   (h__law_mul base) (h__law_less base) (h__law_middle base) (h__law_apart base) (h__law_radius base) (h__law_add base) (h__law_sgn base) (h__law_point base) (h__law_value base)  
  have h_touch_kind : ∀ base, Df PySem.Challenge.rw_cornersexact_k01_wide_curves_and_where_t.prog w K mg base "touch_kind" 2 6 F_touch_kind := by
    obtain ⟨_, _, f, g⟩ := d_touch_kind.has X G
    exact fun base => ok_touch_kind f g   (h_middle_of base) (h_minus base) (h_square base) (h_added base) (h_radius_of base) (h_times base) (h_sign base)  
  have h__law_kind : ∀ base, Df PySem.Challenge.rw_cornersexact_k01_wide_curves_and_where_t.prog w K mg base "_law_kind" 2 6 F__law_kind := by
    obtain ⟨_, _, f, g⟩ := d__law_kind.has X G
    exact fun base => ok__law_kind f g   (h__law_middle base) (h__law_apart base) (h__law_radius base) (h__law_many base) (h__law_add base) (h__law_less base) (h__law_sgn base)  
  have h_times_root : ∀ base, Df PySem.Challenge.rw_cornersexact_k01_wide_curves_and_where_t.prog w K mg base "times_root" 2 5 F_times_root := by
    obtain ⟨_, _, f, g⟩ := d_times_root.has X G
    exact fun base => ok_times_root f g k_NOTHING  (h_times base) (h_added base) (h_tidy base)  
  have h_value_at : ∀ base, Df PySem.Challenge.rw_cornersexact_k01_wide_curves_and_where_t.prog w K mg base "value_at" 2 6 F_value_at := by
    obtain ⟨_, _, f, g⟩ := d_value_at.has X G
    exact fun base => ok_value_at f g   (h_by_fraction base) (h_added_root base) (h_plain base) (h_times_root base)  
  have h_sign_at : ∀ base, Df PySem.Challenge.rw_cornersexact_k01_wide_curves_and_where_t.prog w K mg base "sign_at" 2 7 F_sign_at := by
    obtain ⟨_, _, f, g⟩ := d_sign_at.has X G
    exact fun base => ok_sign_at f g   (h_value_at base) (h_sign_of_root base)  
  have h__law_compare : ∀ base, Df PySem.Challenge.rw_cornersexact_k01_wide_curves_and_where_t.prog w K mg base "_law_compare" 2 4 F__law_compare := by
    obtain ⟨_, _, f, g⟩ := d__law_compare.has X G
    exact fun base => ok__law_compare f g   (h__law_less base) (h__law_sign base) (h__law_sgn base) (h__law_mul base) (h__law_add base)  
  have h__law_before : ∀ base, Df PySem.Challenge.rw_cornersexact_k01_wide_curves_and_where_t.prog w K mg base "_law_before" 2 5 F__law_before := by
    obtain ⟨_, _, f, g⟩ := d__law_before.has X G
    exact fun base => ok__law_before f g   (h__law_compare base)  
  have h_is_root : ∀ base, Df PySem.Challenge.rw_cornersexact_k01_wide_curves_and_where_t.prog w K mg base "is_root" 1 3 F_is_root := by
    obtain ⟨_, _, f, g⟩ := d_is_root.has X G
    exact fun base => ok_is_root f g k_NOTHING b_isinstance b_tuple b_len b_all (h_is_fraction base)  
  have h_is_point : ∀ base, Df PySem.Challenge.rw_cornersexact_k01_wide_curves_and_where_t.prog w K mg base "is_point" 1 4 F_is_point := by
    obtain ⟨_, _, f, g⟩ := d_is_point.has X G
    exact fun base => ok_is_point f g  b_isinstance b_tuple b_len b_all (h_is_root base)  
  have h__law_meets : ∀ base, Df PySem.Challenge.rw_cornersexact_k01_wide_curves_and_where_t.prog w K mg base "_law_meets" 3 10 F__law_meets := by
    obtain ⟨_, _, f, g⟩ := d__law_meets.has X G
    exact fun base => ok__law_meets f g  b_isinstance b_list b_len (h_meets base) (h__law_many base) (h_is_point base) (h__law_side base) (h__law_before base) (h_compare_points base) (h_touch_kind base) (h__law_kind base) (h__law_curve base) (h_sign_at base)  
  have h_point_of : ∀ base, Df PySem.Challenge.rw_cornersexact_k01_wide_curves_and_where_t.prog w K mg base "point_of" 2 2 F_point_of := by
    obtain ⟨_, _, f, g⟩ := d_point_of.has X G
    exact fun base => ok_point_of f g   (h_plain base)  
  have h__law_bent : ∀ base, Df PySem.Challenge.rw_cornersexact_k01_wide_curves_and_where_t.prog w K mg base "_law_bent" 2 3 F__law_bent := by
    obtain ⟨_, _, f, g⟩ := d__law_bent.has X G
    exact fun base => ok__law_bent f g  b_list (h__law_pick base)  
  obtain ⟨f, _, _, _, _, _, _, _, _, _, a, l, c, k⟩ := d_law
  have e := hfa.symm.trans (PySem.W.mg_of X G a)
  cases e
  exact ⟨_, fun s v => .of_eq rfl, fun base _ _ => ok_law (fun_mk (st := s_law) l c k)  b_range b_len (h__law_draws base) (h__law_drawn base) (h_is_curve base) (h__law_through base) (h__law_middle base) (h_middle_of base) (h_radius_of base) (h__law_radius base) (h_circle base) (h_touch_kind base) (h__law_next base) (h__law_mul base) (h_line base) (h__law_meets base) (h_turns_of base) (h__law_side base) (h__law_compare base) (h__law_small base) (h_point_of base) (h__law_point base) (h_sign_at base) (h__law_bent base) (h__law_try base) hd hs⟩

end Pl
open PySem PySem.W PyProof.Rows in
set_option maxRecDepth 100000 in
set_option maxHeartbeats 0 in
theorem PySem.Challenge.cw_cornersexact_k01_wide_curves_and_where_t_holds : PySem.Challenge.rw_cornersexact_k01_wide_curves_and_where_t.Holds := by
  w_on; o_law; k_head; (case hw => w_witness2)
  k_fill
  refine L2.walk_of (l := PySem.Challenge.rw_cornersexact_k01_wide_curves_and_where_t) (n := 63) (k := 11) (x := "script") (CX := fun _ => L2.CX0) (sp := fun w => Pl.spLaw _) rfl (by decide) rfl ⟨rfl, by decide, by decide⟩ (fun w h Y => PySem.W.kIn_of Y) ?F (fun _ _ a ns hl ho hS => ⟨a, ns, rfl, Pl.scl_of ho hS, hl, fun _ => rfl⟩) (fun _ _ _ _ _ h => h)
  case F =>
    intro w mg fa h KX G hmg
    refine' Pl.all_mk KX G hmg ?d__law_draws ?d__law_frac ?d__law_over ?d__law_line ?d__law_next ?d__law_less ?d__law_add ?d__law_mul ?d__law_circle ?d__law_small ?d__law_curve ?d__law_middle ?d__law_pick ?d__law_drawn ?d_common ?d_fraction ?d_half ?d_turned ?d_middle_of ?d_minus ?d_added ?d_square ?d_radius_of ?d_plain ?d_whole_root ?d_times ?d_tidy ?d_turns_of ?d_over ?d_sign_of ?d_sign ?d_circle ?d_circle_through ?d_line ?d_line_through ?d__law_try ?d_is_number ?d_is_fraction ?d_is_curve ?d__law_point ?d__law_says ?d__law_sgn ?d__law_sign ?d__law_value ?d__law_side ?d__law_through ?d_sign_of_root ?d_sum_of ?d_sign_of_two ?d_compare ?d_compare_points ?d_in_order ?d_of_lines ?d_is_upright ?d_both_roots ?d_added_root ?d_by_fraction ?d_of_line_and_circle ?d_same_power ?d_meets ?d__law_apart ?d__law_radius ?d__law_many ?d_touch_kind ?d__law_kind ?d_times_root ?d_value_at ?d_sign_at ?d__law_compare ?d__law_before ?d_is_root ?d_is_point ?d__law_meets ?d_point_of ?d__law_bent ?d_law ?c_NOTHING ?z_range ?z_len ?z_abs ?z_int ?z_isinstance ?z_bool ?z_tuple ?z_all ?z_list ?RA ?TA Pl.hd_law Pl.hs_law
    (case d__law_draws => refine' Pl.defAt ?a ?l ?c ?k; (case a => k_is); (case l => k_is); (case c => k_is); (case k => k_is))
    (case d__law_frac => refine' Pl.defAt ?a ?l ?c ?k; (case a => k_is); (case l => k_is); (case c => k_is); (case k => k_is))
    (case d__law_over => refine' Pl.defAt ?a ?l ?c ?k; (case a => k_is); (case l => k_is); (case c => k_is); (case k => k_is))
    (case d__law_line => refine' Pl.defAt ?a ?l ?c ?k; (case a => k_is); (case l => k_is); (case c => k_is); (case k => k_is))
    (case d__law_next => refine' Pl.defAt ?a ?l ?c ?k; (case a => k_is); (case l => k_is); (case c => k_is); (case k => k_is))
    (case d__law_less => refine' Pl.defAt ?a ?l ?c ?k; (case a => k_is); (case l => k_is); (case c => k_is); (case k => k_is))
    (case d__law_add => refine' Pl.defAt ?a ?l ?c ?k; (case a => k_is); (case l => k_is); (case c => k_is); (case k => k_is))
    (case d__law_mul => refine' Pl.defAt ?a ?l ?c ?k; (case a => k_is); (case l => k_is); (case c => k_is); (case k => k_is))
    (case d__law_circle => refine' Pl.defAt ?a ?l ?c ?k; (case a => k_is); (case l => k_is); (case c => k_is); (case k => k_is))
    (case d__law_small => refine' Pl.defAt ?a ?l ?c ?k; (case a => k_is); (case l => k_is); (case c => k_is); (case k => k_is))
    (case d__law_curve => refine' Pl.defAt ?a ?l ?c ?k; (case a => k_is); (case l => k_is); (case c => k_is); (case k => k_is))
    (case d__law_middle => refine' Pl.defAt ?a ?l ?c ?k; (case a => k_is); (case l => k_is); (case c => k_is); (case k => k_is))
    (case d__law_pick => refine' Pl.defAt ?a ?l ?c ?k; (case a => k_is); (case l => k_is); (case c => k_is); (case k => k_is))
    (case d__law_drawn => refine' Pl.defAt ?a ?l ?c ?k; (case a => k_is); (case l => k_is); (case c => k_is); (case k => k_is))
    (case d_common => refine' Pl.defAt ?a ?l ?c ?k; (case a => k_is); (case l => k_is); (case c => k_is); (case k => k_is))
    (case d_fraction => refine' Pl.defAt ?a ?l ?c ?k; (case a => k_is); (case l => k_is); (case c => k_is); (case k => k_is))
    (case d_half => refine' Pl.defAt ?a ?l ?c ?k; (case a => k_is); (case l => k_is); (case c => k_is); (case k => k_is))
    (case d_turned => refine' Pl.defAt ?a ?l ?c ?k; (case a => k_is); (case l => k_is); (case c => k_is); (case k => k_is))
    (case d_middle_of => refine' Pl.defAt ?a ?l ?c ?k; (case a => k_is); (case l => k_is); (case c => k_is); (case k => k_is))
    (case d_minus => refine' Pl.defAt ?a ?l ?c ?k; (case a => k_is); (case l => k_is); (case c => k_is); (case k => k_is))
    (case d_added => refine' Pl.defAt ?a ?l ?c ?k; (case a => k_is); (case l => k_is); (case c => k_is); (case k => k_is))
    (case d_square => refine' Pl.defAt ?a ?l ?c ?k; (case a => k_is); (case l => k_is); (case c => k_is); (case k => k_is))
    (case d_radius_of => refine' Pl.defAt ?a ?l ?c ?k; (case a => k_is); (case l => k_is); (case c => k_is); (case k => k_is))
    (case d_plain => refine' Pl.defAt ?a ?l ?c ?k; (case a => k_is); (case l => k_is); (case c => k_is); (case k => k_is))
    (case d_whole_root => refine' Pl.defAt ?a ?l ?c ?k; (case a => k_is); (case l => k_is); (case c => k_is); (case k => k_is))
    (case d_times => refine' Pl.defAt ?a ?l ?c ?k; (case a => k_is); (case l => k_is); (case c => k_is); (case k => k_is))
    (case d_tidy => refine' Pl.defAt ?a ?l ?c ?k; (case a => k_is); (case l => k_is); (case c => k_is); (case k => k_is))
    (case d_turns_of => refine' Pl.defAt ?a ?l ?c ?k; (case a => k_is); (case l => k_is); (case c => k_is); (case k => k_is))
    (case d_over => refine' Pl.defAt ?a ?l ?c ?k; (case a => k_is); (case l => k_is); (case c => k_is); (case k => k_is))
    (case d_sign_of => refine' Pl.defAt ?a ?l ?c ?k; (case a => k_is); (case l => k_is); (case c => k_is); (case k => k_is))
    (case d_sign => refine' Pl.defAt ?a ?l ?c ?k; (case a => k_is); (case l => k_is); (case c => k_is); (case k => k_is))
    (case d_circle => refine' Pl.defAt ?a ?l ?c ?k; (case a => k_is); (case l => k_is); (case c => k_is); (case k => k_is))
    (case d_circle_through => refine' Pl.defAt ?a ?l ?c ?k; (case a => k_is); (case l => k_is); (case c => k_is); (case k => k_is))
    (case d_line => refine' Pl.defAt ?a ?l ?c ?k; (case a => k_is); (case l => k_is); (case c => k_is); (case k => k_is))
    (case d_line_through => refine' Pl.defAt ?a ?l ?c ?k; (case a => k_is); (case l => k_is); (case c => k_is); (case k => k_is))
    (case d__law_try => refine' Pl.defAt ?a ?l ?c ?k; (case a => k_is); (case l => k_is); (case c => k_is); (case k => k_is))
    (case d_is_number => refine' Pl.defAt ?a ?l ?c ?k; (case a => k_is); (case l => k_is); (case c => k_is); (case k => k_is))
    (case d_is_fraction => refine' Pl.defAt ?a ?l ?c ?k; (case a => k_is); (case l => k_is); (case c => k_is); (case k => k_is))
    (case d_is_curve => refine' Pl.defAt ?a ?l ?c ?k; (case a => k_is); (case l => k_is); (case c => k_is); (case k => k_is))
    (case d__law_point => refine' Pl.defAt ?a ?l ?c ?k; (case a => k_is); (case l => k_is); (case c => k_is); (case k => k_is))
    (case d__law_says => refine' Pl.defAt ?a ?l ?c ?k; (case a => k_is); (case l => k_is); (case c => k_is); (case k => k_is))
    (case d__law_sgn => refine' Pl.defAt ?a ?l ?c ?k; (case a => k_is); (case l => k_is); (case c => k_is); (case k => k_is))
    (case d__law_sign => refine' Pl.defAt ?a ?l ?c ?k; (case a => k_is); (case l => k_is); (case c => k_is); (case k => k_is))
    (case d__law_value => refine' Pl.defAt ?a ?l ?c ?k; (case a => k_is); (case l => k_is); (case c => k_is); (case k => k_is))
    (case d__law_side => refine' Pl.defAt ?a ?l ?c ?k; (case a => k_is); (case l => k_is); (case c => k_is); (case k => k_is))
    (case d__law_through => refine' Pl.defAt ?a ?l ?c ?k; (case a => k_is); (case l => k_is); (case c => k_is); (case k => k_is))
    (case d_sign_of_root => refine' Pl.defAt ?a ?l ?c ?k; (case a => k_is); (case l => k_is); (case c => k_is); (case k => k_is))
    (case d_sum_of => refine' Pl.defAt ?a ?l ?c ?k; (case a => k_is); (case l => k_is); (case c => k_is); (case k => k_is))
    (case d_sign_of_two => refine' Pl.defAt ?a ?l ?c ?k; (case a => k_is); (case l => k_is); (case c => k_is); (case k => k_is))
    (case d_compare => refine' Pl.defAt ?a ?l ?c ?k; (case a => k_is); (case l => k_is); (case c => k_is); (case k => k_is))
    (case d_compare_points => refine' Pl.defAt ?a ?l ?c ?k; (case a => k_is); (case l => k_is); (case c => k_is); (case k => k_is))
    (case d_in_order => refine' Pl.defAt ?a ?l ?c ?k; (case a => k_is); (case l => k_is); (case c => k_is); (case k => k_is))
    (case d_of_lines => refine' Pl.defAt ?a ?l ?c ?k; (case a => k_is); (case l => k_is); (case c => k_is); (case k => k_is))
    (case d_is_upright => refine' Pl.defAt ?a ?l ?c ?k; (case a => k_is); (case l => k_is); (case c => k_is); (case k => k_is))
    (case d_both_roots => refine' Pl.defAt ?a ?l ?c ?k; (case a => k_is); (case l => k_is); (case c => k_is); (case k => k_is))
    (case d_added_root => refine' Pl.defAt ?a ?l ?c ?k; (case a => k_is); (case l => k_is); (case c => k_is); (case k => k_is))
    (case d_by_fraction => refine' Pl.defAt ?a ?l ?c ?k; (case a => k_is); (case l => k_is); (case c => k_is); (case k => k_is))
    (case d_of_line_and_circle => refine' Pl.defAt ?a ?l ?c ?k; (case a => k_is); (case l => k_is); (case c => k_is); (case k => k_is))
    (case d_same_power => refine' Pl.defAt ?a ?l ?c ?k; (case a => k_is); (case l => k_is); (case c => k_is); (case k => k_is))
    (case d_meets => refine' Pl.defAt ?a ?l ?c ?k; (case a => k_is); (case l => k_is); (case c => k_is); (case k => k_is))
    (case d__law_apart => refine' Pl.defAt ?a ?l ?c ?k; (case a => k_is); (case l => k_is); (case c => k_is); (case k => k_is))
    (case d__law_radius => refine' Pl.defAt ?a ?l ?c ?k; (case a => k_is); (case l => k_is); (case c => k_is); (case k => k_is))
    (case d__law_many => refine' Pl.defAt ?a ?l ?c ?k; (case a => k_is); (case l => k_is); (case c => k_is); (case k => k_is))
    (case d_touch_kind => refine' Pl.defAt ?a ?l ?c ?k; (case a => k_is); (case l => k_is); (case c => k_is); (case k => k_is))
    (case d__law_kind => refine' Pl.defAt ?a ?l ?c ?k; (case a => k_is); (case l => k_is); (case c => k_is); (case k => k_is))
    (case d_times_root => refine' Pl.defAt ?a ?l ?c ?k; (case a => k_is); (case l => k_is); (case c => k_is); (case k => k_is))
    (case d_value_at => refine' Pl.defAt ?a ?l ?c ?k; (case a => k_is); (case l => k_is); (case c => k_is); (case k => k_is))
    (case d_sign_at => refine' Pl.defAt ?a ?l ?c ?k; (case a => k_is); (case l => k_is); (case c => k_is); (case k => k_is))
    (case d__law_compare => refine' Pl.defAt ?a ?l ?c ?k; (case a => k_is); (case l => k_is); (case c => k_is); (case k => k_is))
    (case d__law_before => refine' Pl.defAt ?a ?l ?c ?k; (case a => k_is); (case l => k_is); (case c => k_is); (case k => k_is))
    (case d_is_root => refine' Pl.defAt ?a ?l ?c ?k; (case a => k_is); (case l => k_is); (case c => k_is); (case k => k_is))
    (case d_is_point => refine' Pl.defAt ?a ?l ?c ?k; (case a => k_is); (case l => k_is); (case c => k_is); (case k => k_is))
    (case d__law_meets => refine' Pl.defAt ?a ?l ?c ?k; (case a => k_is); (case l => k_is); (case c => k_is); (case k => k_is))
    (case d_point_of => refine' Pl.defAt ?a ?l ?c ?k; (case a => k_is); (case l => k_is); (case c => k_is); (case k => k_is))
    (case d__law_bent => refine' Pl.defAt ?a ?l ?c ?k; (case a => k_is); (case l => k_is); (case c => k_is); (case k => k_is))
    (case d_law => refine' Pl.defAt ?a ?l ?c ?k; (case a => k_is); (case l => k_is); (case c => k_is); (case k => k_is))
    (case c_NOTHING => refine' Pl.cstAt ?a ?l; (case a => k_is); (case l => k_is))
    (case z_range => k_is)
    (case z_len => k_is)
    (case z_abs => k_is)
    (case z_int => k_is)
    (case z_isinstance => k_is)
    (case z_bool => k_is)
    (case z_tuple => k_is)
    (case z_all => k_is)
    (case z_list => k_is)
    (case RA => refine' Pl.raiseAt KX G ?a ?i ?l ?cl ?hbm ?sa ?exC ?tyC ?kC ?ty ?code ?lc ?hvs ?hfile ?cell ?su ?top ?sb ?no ?meth ?isV ?fld ?hmsg ?hev ?hsw ?hsw2; (case a => first | k_is | kernel_rfl); (case i => first | k_is | kernel_rfl); (case l => first | k_is | kernel_rfl); (case cl => first | k_is | kernel_rfl); (case hbm => decide); (case sa => first | k_is | kernel_rfl); (case exC => first | k_is | kernel_rfl); (case tyC => first | k_is | kernel_rfl); (case kC => first | k_is | kernel_rfl); (case ty => first | k_is | kernel_rfl); (case code => first | k_is | kernel_rfl); (case lc => first | k_is | kernel_rfl); (case hvs => rfl); (case hfile => first | rfl | decide +kernel); (case cell => first | k_is | kernel_rfl); (case su => first | k_is | kernel_rfl); (case top => first | rfl | decide +kernel); (case sb => first | k_is | kernel_rfl); (case no => first | k_is | kernel_rfl); (case meth => ks_is); (case isV => first | k_is | kernel_rfl); (case fld => first | k_is | kernel_rfl); (case hmsg => decide); (case hev => exact fun _ => rfl); (case hsw => exact fun _ => rfl); (case hsw2 => exact fun _ => rfl))
    (case TA => refine' Pl.tryAt KX G ?u ?a ?iso ?cl ?hbm ?sa ?tyC ?kC ?x1 ?x2 ?x3 ?x4 ?x5 ?x6 ?x7 ?x8 ?fld ?one ?kit; (case u => first | k_is | kernel_rfl); (case a => first | k_is | kernel_rfl); (case iso => first | k_is | kernel_rfl); (case cl => first | k_is | kernel_rfl); (case hbm => decide); (case sa => first | k_is | kernel_rfl); (case tyC => first | k_is | kernel_rfl); (case kC => first | k_is | kernel_rfl); (case x1 => first | k_is | kernel_rfl); (case x2 => first | k_is | kernel_rfl); (case x3 => first | k_is | kernel_rfl); (case x4 => first | k_is | kernel_rfl); (case x5 => first | k_is | kernel_rfl); (case x6 => first | k_is | kernel_rfl); (case x7 => first | k_is | kernel_rfl); (case x8 => first | k_is | kernel_rfl); (case fld => first | k_is | kernel_rfl); (case one => first | k_is | kernel_rfl); (case kit => first | k_is | kernel_rfl))

